import PyProof.Rows.All
import Wide.All
import OpenK.AllK
import Wide.FinOn
import HandS.ForMost
import HandS.ForExc
import HandS.Flow
import HandS.Wide
import HandS.CallSlots
import HandS.DictTup
import HandS.Conv
import KE.SortData
import HandS.TupAny
import HandS.RaiseMore
import HandS.ExcCtx
import HandS.HotCalls
import HandS.IsInst
import HandS.Style
import HandS.TupLe
import HandS.Deep
import HandS.Call
import HandS.WordsExc
import HandS.WordsDict
import HandS.Text
import HandS.More
import PyProof.PvWalk
import HandS.Iter
import HandS.SlotsOwn
import HandS.NamedTupGet
import HandS.NamedTupSort
import PyProof.InstEq
import PyProof.CallStr
import HandS.FStr
import HandS.Ends
import HandS.ExcInit
import HandS.ClsMeth
import HandS.TupSets
import HandS.ListItems
import PyProof.DictUpdate
import HandS.Strs
import PyProof.WalksMore
import KE.KEqNest
import PyProof.EqKinds
import HandS.Comp
import KE.KExcIs
import HandS.ExcIs
import HandS.ExcField
import KE.DataMinMax
import PySem.Challenge.RW_clothrail_k03_where_tables_part
set_option Elab.async false
set_option linter.all false
set_option maxRecDepth 100000
set_option maxHeartbeats 4000000
namespace DL
open PySem PySem.Spec PyProof.Rows L2

/-! ### data and store -/
inductive D where
  | non | bl (b : Bool) | int (i : Int) | str (s : Str) | tup (xs : List D) | ref (n : Nat) | con (v : V) | scr (xs : List Int)
inductive O where
  | lst (xs : List D) | dK (kvs : List (Key × D)) | dT (kvs : List (List Key × D)) | fK (kvs : List (Key × D)) | fT (kvs : List (List Key × D))
  | ins (C : Addr) (fs : List (Str × D))
abbrev Sto := List O
abbrev Env := List (Option D)
structure Exn where
  C : Str
  fs : Option (List (Str × D))
inductive R (α : Type) where
  | ok (a : α) (S : Sto) | err (x : Exn) (S : Sto) | bad
inductive RS where
  | nx (e : Env) (S : Sto) | rt (d : D) (S : Sto) | bk (e : Env) (S : Sto) | ct (e : Env) (S : Sto) | err (x : Exn) (e : Env) (S : Sto) | bad

/-! ### how data lie in the heap -/
/-- the script: frozen, or an object of the written part -/
def ScrAt (K : PySem.W.Frag) (H : Hp) (a : Addr) (ns : List Int) : Prop :=
  (∃ o, H a = some (.frz o (.lst (ns.map V.int)))) ∨
    ∃ (o : Obj) (its : Array Value) (n : Nat), K.lookup a = some o ∧ o.cls = .type "list" ∧ o.dict = none ∧ o.data = .seq its n ∧ its.size ≤ sizeLine ∧ Vals (ns.map V.int) its.toList
mutual
inductive DV (K : PySem.W.Frag) (H : Hp) (ι : List Addr) : D → V → Prop
  | non : DV K H ι .non .non
  | bl (b : Bool) : DV K H ι (.bl b) (.bl b)
  | int (i : Int) : DV K H ι (.int i) (.int i)
  | str (x : Str) : DV K H ι (.str x) (.str x)
  | tup {a : Addr} {vs : List V} {ds : List D} : H a = some (.tup vs) → DVs K H ι ds vs → DV K H ι (.tup ds) (.ref a)
  | ref {n : Nat} {a : Addr} : ι[n]? = some a → DV K H ι (.ref n) (.ref a)
  | con (v : V) : DV K H ι (.con v) v
  | scr {a : Addr} {ns : List Int} : ScrAt K H a ns → DV K H ι (.scr ns) (.ref a)
inductive DVs (K : PySem.W.Frag) (H : Hp) (ι : List Addr) : List D → List V → Prop
  | nil : DVs K H ι [] []
  | cons {d : D} {ds : List D} {v : V} {vs : List V} : DV K H ι d v → DVs K H ι ds vs → DVs K H ι (d :: ds) (v :: vs)
end

theorem ScrAt.seq {K : PySem.W.Frag} {H : Hp} {a : Addr} {ns : List Int} (h : ScrAt K H a ns) : SqL K H a (ns.map V.int) := by
  rcases h with ⟨o, h⟩ | h
  · exact .inl (.inr ⟨o, h⟩)
  · exact .inr h
theorem ScrAt.of {K : PySem.W.Frag} {H : Hp} {a : Addr} {ns : List Int} (h : SqL K H a (ns.map V.int)) (hO : Only H) : ScrAt K H a ns := by
  rcases h with (h | ⟨o, h⟩) | h
  · rcases hO a with z | ⟨o, xs, z⟩
    · rw [z] at h; cases h
    · rw [z] at h; cases h
  · exact .inl ⟨o, h⟩
  · exact .inr h
/-- what never changes -/
def stable : HO → Bool
  | .tup _ => true
  | .frz _ _ => true
  | _ => false
/-- from (H, ι) to (H', ι'): the known places stay, what is not ours stays, what is new was free -/
structure Gr (H : Hp) (ι : List Addr) (H' : Hp) (ι' : List Addr) : Prop where
  pre : ∃ m, ι' = ι ++ m
  kp : ∀ b o, stable o = true → H b = some o → H' b = some o
structure Ext (H : Hp) (ι : List Addr) (H' : Hp) (ι' : List Addr) : Prop extends Gr H ι H' ι' where
  fr : ∀ b o, b ∉ ι → H b = some o → H' b = some o
  dom : ∀ b, H b ≠ none → H' b ≠ none
  nw : ∀ b, b ∈ ι' → b ∈ ι ∨ H b = none
theorem Ext.refl (H : Hp) (ι : List Addr) : Ext H ι H ι := ⟨⟨⟨[], by simp⟩, fun _ _ _ h => h⟩, fun _ _ _ h => h, fun _ h => h, fun _ h => .inl h⟩
theorem Ext.trans {H H1 H2 : Hp} {ι ι1 ι2 : List Addr} (a : Ext H ι H1 ι1) (b : Ext H1 ι1 H2 ι2) : Ext H ι H2 ι2 := by
  refine ⟨⟨?_, fun c o s h => b.kp c o s (a.kp c o s h)⟩, fun c o hc h => ?_, fun c h => b.dom c (a.dom c h), fun c hc => ?_⟩
  · obtain ⟨m, rfl⟩ := a.pre
    obtain ⟨m', rfl⟩ := b.pre
    exact ⟨m ++ m', by simp⟩
  · refine b.fr c o (fun z => ?_) (a.fr c o hc h)
    rcases a.nw c z with z | z
    · exact hc z
    · rw [z] at h; cases h
  · rcases b.nw c hc with z | z
    · exact a.nw c z
    · refine .inr ?_
      cases q : H c with
      | none => rfl
      | some o => exact absurd z (a.dom c (by rw [q]; simp))
theorem Ext.was {H H' : Hp} {ι ι' : List Addr} (e : Ext H ι H' ι') {b : Addr} (h : H' b = none) : H b = none := by
  cases q : H b with
  | none => rfl
  | some o => exact absurd h (e.dom b (by rw [q]; simp))
theorem Gr.get {H H' : Hp} {ι ι' : List Addr} (e : Gr H ι H' ι') {n : Nat} {a : Addr} (h : ι[n]? = some a) : ι'[n]? = some a := by
  obtain ⟨m, rfl⟩ := e.pre
  rw [List.getElem?_append_left (List.getElem?_eq_some_iff.mp h).1]
  exact h
theorem Gr.scr {K : PySem.W.Frag} {H H' : Hp} {ι ι' : List Addr} (e : Gr H ι H' ι') {a : Addr} {ns : List Int} (h : ScrAt K H a ns) : ScrAt K H' a ns := by
  rcases h with ⟨o, h⟩ | h
  · exact .inl ⟨o, e.kp _ _ rfl h⟩
  · exact .inr h
mutual
theorem DV.mono {K : PySem.W.Frag} {H H' : Hp} {ι ι' : List Addr} (e : Gr H ι H' ι') : ∀ {d : D} {v : V}, DV K H ι d v → DV K H' ι' d v
  | _, _, .non => .non
  | _, _, .bl b => .bl b
  | _, _, .int i => .int i
  | _, _, .str x => .str x
  | _, _, .tup h t => .tup (e.kp _ _ rfl h) (DVs.mono e t)
  | _, _, .ref h => .ref (e.get h)
  | _, _, .con v => .con v
  | _, _, .scr h => .scr (e.scr h)
theorem DVs.mono {K : PySem.W.Frag} {H H' : Hp} {ι ι' : List Addr} (e : Gr H ι H' ι') : ∀ {ds : List D} {vs : List V}, DVs K H ι ds vs → DVs K H' ι' ds vs
  | _, _, .nil => .nil
  | _, _, .cons h t => .cons (DV.mono e h) (DVs.mono e t)
end
theorem DVs.length {K : PySem.W.Frag} {H : Hp} {ι : List Addr} : ∀ {ds : List D} {vs : List V}, DVs K H ι ds vs → ds.length = vs.length
  | _, _, .nil => rfl
  | _, _, .cons _ t => congrArg (· + 1) (DVs.length t)
theorem DVs.get {K : PySem.W.Frag} {H : Hp} {ι : List Addr} : ∀ {ds : List D} {vs : List V} {i : Nat} {d : D}, DVs K H ι ds vs → ds[i]? = some d → ∃ v, vs[i]? = some v ∧ DV K H ι d v
  | _, _, _, _, .nil, e => by simp at e
  | _, _, 0, _, .cons r _, e => by simp at e; subst e; exact ⟨_, rfl, r⟩
  | _, _, i + 1, d, .cons _ t, e => by
    obtain ⟨v, h1, h2⟩ := DVs.get (i := i) (d := d) t (by simpa using e)
    exact ⟨v, by simpa using h1, h2⟩
theorem DVs.getV {K : PySem.W.Frag} {H : Hp} {ι : List Addr} : ∀ {ds : List D} {vs : List V} {i : Nat} {v : V}, DVs K H ι ds vs → vs[i]? = some v → ∃ d, ds[i]? = some d ∧ DV K H ι d v
  | _, _, _, _, .nil, e => by simp at e
  | _, _, 0, _, .cons r _, e => by simp at e; subst e; exact ⟨_, rfl, r⟩
  | _, _, i + 1, v, .cons _ t, e => by
    obtain ⟨d, h1, h2⟩ := DVs.getV (i := i) (v := v) t (by simpa using e)
    exact ⟨d, by simpa using h1, h2⟩
theorem DVs.append {K : PySem.W.Frag} {H : Hp} {ι : List Addr} : ∀ {ds es : List D} {vs us : List V}, DVs K H ι ds vs → DVs K H ι es us → DVs K H ι (ds ++ es) (vs ++ us)
  | _, _, _, _, .nil, s => s
  | _, _, _, _, .cons r t, s => .cons r (DVs.append t s)
theorem DVs.set {K : PySem.W.Frag} {H : Hp} {ι : List Addr} {d : D} {v : V} (r : DV K H ι d v) : ∀ {ds : List D} {vs : List V} (i : Nat), DVs K H ι ds vs → DVs K H ι (ds.set i d) (vs.set i v)
  | _, _, _, .nil => .nil
  | _, _, 0, .cons _ t => .cons r t
  | _, _, i + 1, .cons q t => .cons q (DVs.set r i t)
theorem DVs.take {K : PySem.W.Frag} {H : Hp} {ι : List Addr} : ∀ {ds : List D} {vs : List V} (n : Nat), DVs K H ι ds vs → DVs K H ι (ds.take n) (vs.take n)
  | _, _, 0, _ => .nil
  | _, _, _ + 1, .nil => .nil
  | _, _, n + 1, .cons r t => .cons r (DVs.take n t)
theorem DVs.drop {K : PySem.W.Frag} {H : Hp} {ι : List Addr} : ∀ {ds : List D} {vs : List V} (n : Nat), DVs K H ι ds vs → DVs K H ι (ds.drop n) (vs.drop n)
  | _, _, 0, r => r
  | _, _, _ + 1, .nil => .nil
  | _, _, n + 1, .cons _ t => DVs.drop n t
theorem DVs.eraseIdx {K : PySem.W.Frag} {H : Hp} {ι : List Addr} : ∀ {ds : List D} {vs : List V} (n : Nat), DVs K H ι ds vs → DVs K H ι (ds.eraseIdx n) (vs.eraseIdx n)
  | _, _, _, .nil => .nil
  | _, _, 0, .cons _ t => t
  | _, _, n + 1, .cons r t => .cons r (DVs.eraseIdx n t)
theorem DVs.ints {K : PySem.W.Frag} {H : Hp} {ι : List Addr} : ∀ {ns : List Int} {vs : List V}, DVs K H ι (ns.map D.int) vs → vs = ns.map V.int
  | [], _, .nil => rfl
  | _ :: _, _, .cons (.int _) t => congrArg _ (DVs.ints t)
theorem DVs.strs {K : PySem.W.Frag} {H : Hp} {ι : List Addr} : ∀ {ns : List Str} {vs : List V}, DVs K H ι (ns.map D.str) vs → vs = ns.map V.str
  | [], _, .nil => rfl
  | _ :: _, _, .cons (.str _) t => congrArg _ (DVs.strs t)
theorem DVs.bls {K : PySem.W.Frag} {H : Hp} {ι : List Addr} : ∀ {ns : List Bool} {vs : List V}, DVs K H ι (ns.map D.bl) vs → vs = ns.map V.bl
  | [], _, .nil => rfl
  | _ :: _, _, .cons (.bl _) t => congrArg _ (DVs.bls t)
theorem DVs.of_ints {K : PySem.W.Frag} {H : Hp} {ι : List Addr} : ∀ (ns : List Int), DVs K H ι (ns.map D.int) (ns.map V.int)
  | [] => .nil
  | i :: r => .cons (.int i) (DVs.of_ints r)

/-- pairs with the same first part -/
inductive DP {κ : Type} (K : PySem.W.Frag) (H : Hp) (ι : List Addr) : List (κ × D) → List (κ × V) → Prop
  | nil : DP K H ι [] []
  | cons {k : κ} {d : D} {v : V} {ds : List (κ × D)} {vs : List (κ × V)} : DV K H ι d v → DP K H ι ds vs → DP K H ι ((k, d) :: ds) ((k, v) :: vs)
theorem DP.mono {κ : Type} {K : PySem.W.Frag} {H H' : Hp} {ι ι' : List Addr} (e : Gr H ι H' ι') : ∀ {ds : List (κ × D)} {vs : List (κ × V)}, DP K H ι ds vs → DP K H' ι' ds vs
  | _, _, .nil => .nil
  | _, _, .cons h t => .cons (h.mono e) (DP.mono e t)
inductive ObjR (K : PySem.W.Frag) (H : Hp) (ι : List Addr) : O → HO → Prop
  | lst {xs : List D} {vs : List V} : DVs K H ι xs vs → ObjR K H ι (.lst xs) (.lst vs)
  | dK {kvs : List (Key × D)} {kws : List (Key × V)} : DP K H ι kvs kws → ObjR K H ι (.dK kvs) (.dK kws)
  | dT {kvs : List (List Key × D)} {kws : List (List Key × V)} : DP K H ι kvs kws → ObjR K H ι (.dT kvs) (.dT kws)
  | fK {kvs : List (Key × D)} {kws : List (Key × V)} {o : Obj} : DP K H ι kvs kws → ObjR K H ι (.fK kvs) (.frz o (.dK kws))
  | fT {kvs : List (List Key × D)} {kws : List (List Key × V)} {o : Obj} : DP K H ι kvs kws → ObjR K H ι (.fT kvs) (.frz o (.dT kws))
  | ins {C dx : Addr} {fs : List (Str × D)} {gs : List (Str × V)} : DP K H ι fs gs → ObjR K H ι (.ins C fs) (.ins C dx gs)
theorem ObjR.mono {K : PySem.W.Frag} {H H' : Hp} {ι ι' : List Addr} (e : Gr H ι H' ι') {o : O} {u : HO} (h : ObjR K H ι o u) : ObjR K H' ι' o u := by
  cases h with
  | lst h => exact .lst (h.mono e)
  | dK h => exact .dK (h.mono e)
  | dT h => exact .dT (h.mono e)
  | fK h => exact .fK (h.mono e)
  | fT h => exact .fT (h.mono e)
  | ins h => exact .ins (h.mono e)
def O.frz : O → Bool
  | .fK _ => true
  | .fT _ => true
  | _ => false
theorem ObjR.nst {K : PySem.W.Frag} {H : Hp} {ι : List Addr} {o : O} {u : HO} (h : ObjR K H ι o u) (hf : o.frz = false) : stable u = false := by cases h <;> first | rfl | cases hf
/-- the store S lies in H at the places ι -/
structure Rep (K : PySem.W.Frag) (H : Hp) (ι : List Addr) (S : Sto) : Prop where
  len : ι.length = S.length
  nd : ι.Nodup
  ob : ∀ (n : Nat) (o : O) (a : Addr), S[n]? = some o → ι[n]? = some a → ∃ u, H a = some u ∧ ObjR K H ι o u
section
variable {K : PySem.W.Frag} {H : Hp} {ι : List Addr} {S : Sto}
theorem Rep.at (r : Rep K H ι S) {n : Nat} {o : O} (h : S[n]? = some o) : ∃ a u, ι[n]? = some a ∧ H a = some u ∧ ObjR K H ι o u := by
  have hl : n < ι.length := by rw [r.len]; exact (List.getElem?_eq_some_iff.mp h).1
  obtain ⟨u, h1, h2⟩ := r.ob n o ι[n] h (List.getElem?_eq_getElem hl)
  exact ⟨_, u, List.getElem?_eq_getElem hl, h1, h2⟩
theorem Rep.mem (r : Rep K H ι S) {a : Addr} (h : a ∈ ι) : ∃ u, H a = some u := by
  obtain ⟨n, hn, e⟩ := List.getElem_of_mem h
  have hs : n < S.length := by rw [← r.len]; exact hn
  obtain ⟨u, h1, h2⟩ := r.ob n S[n] a (List.getElem?_eq_getElem hs) (by rw [List.getElem?_eq_getElem hn, e])
  exact ⟨u, h1⟩
theorem Rep.free (r : Rep K H ι S) {a : Addr} (h : H a = none) : a ∉ ι := fun z => by
  obtain ⟨u, h1⟩ := r.mem z
  rw [h] at h1; cases h1
theorem Rep.none_ref (r : Rep K H ι S) {n : Nat} (h : S[n]? = none) : ι[n]? = none := by
  rw [List.getElem?_eq_none_iff] at h ⊢
  rw [r.len]; exact h
/-- a new object that we do not keep -/
theorem Ext.junk {p : Addr} (o : HO) (hp : H p = none) : Ext H ι (upd H p o) ι :=
  ⟨⟨⟨[], by simp⟩, fun b _ _ h => by rw [upd_ne (ne_of_none h hp)]; exact h⟩, fun b _ _ h => by rw [upd_ne (ne_of_none h hp)]; exact h,
    fun b h => by by_cases e : b = p <;> simp_all [upd], fun _ h => .inl h⟩
theorem Rep.ext (r : Rep K H ι S) {H' : Hp} {ι' : List Addr} (e : Ext H ι H' ι') (h : ∀ b ∈ ι, H' b = H b) : ∀ (n : Nat) (o : O) (a : Addr), S[n]? = some o → ι[n]? = some a → ∃ u, H' a = some u ∧ ObjR K H' ι' o u := fun n o a h1 h2 => by
  obtain ⟨u, q1, q2⟩ := r.ob n o a h1 h2
  exact ⟨u, by rw [h a (List.mem_of_getElem? h2)]; exact q1, q2.mono e.toGr⟩
theorem Rep.junk (r : Rep K H ι S) {p : Addr} (o : HO) (hp : H p = none) : Rep K (upd H p o) ι S :=
  ⟨r.len, r.nd, r.ext (Ext.junk o hp) fun b hb => upd_ne fun e => r.free hp (e ▸ hb)⟩
/-- a new object that we keep -/
theorem Ext.adopt {p : Addr} (o : HO) (hp : H p = none) : Ext H ι (upd H p o) (ι ++ [p]) :=
  ⟨⟨⟨[p], rfl⟩, (Ext.junk (ι := ι) o hp).kp⟩, (Ext.junk (ι := ι) o hp).fr, (Ext.junk (ι := ι) o hp).dom, fun b h => by
    rcases List.mem_append.mp h with h | h
    · exact .inl h
    · have e : b = p := by simpa using h
      subst e; exact .inr hp⟩
theorem Rep.adopt (r : Rep K H ι S) {p : Addr} {o : O} {u : HO} (hp : H p = none) (h : ObjR K H ι o u) : Rep K (upd H p u) (ι ++ [p]) (S ++ [o]) := by
  refine ⟨by simp [r.len], ?_, fun n q a h1 h2 => ?_⟩
  · rw [List.nodup_append]
    exact ⟨r.nd, by simp, fun x hx y hy e => by
      have : y = p := by simpa using hy
      subst this; subst e; exact r.free hp hx⟩
  · by_cases hn : n < S.length
    · rw [List.getElem?_append_left hn] at h1
      rw [List.getElem?_append_left (by rw [r.len]; exact hn)] at h2
      exact r.ext (Ext.adopt u hp) (fun b hb => upd_ne fun e => r.free hp (e ▸ hb)) n q a h1 h2
    · have hn' : n = S.length := by
        have := (List.getElem?_eq_some_iff.mp h1).1
        simp at this; omega
      subst hn'
      rw [List.getElem?_append_right (Nat.le_refl _)] at h1
      rw [← r.len, List.getElem?_append_right (Nat.le_refl _)] at h2
      simp at h1 h2
      subst h1; subst h2
      exact ⟨u, upd_same, h.mono (Ext.adopt u hp).toGr⟩
/-- a tracked temporary is taken in -/
theorem Ext.take {p : Addr} {H0 : Hp} {ι0 : List Addr} (e : Ext H0 ι0 H ι) (hp : H0 p = none) : Ext H0 ι0 H (ι ++ [p]) := by
  obtain ⟨m, hm⟩ := e.pre
  refine ⟨⟨⟨m ++ [p], by rw [hm]; simp⟩, e.kp⟩, e.fr, e.dom, fun b h => ?_⟩
  rcases List.mem_append.mp h with h | h
  · exact e.nw b h
  · have q : b = p := by simpa using h
    subst q; exact .inr hp
theorem Gr.more (p : Addr) : Gr H ι H (ι ++ [p]) := ⟨⟨[p], rfl⟩, fun _ _ _ h => h⟩
theorem Rep.take (r : Rep K H ι S) {p : Addr} {o : O} {u : HO} (hn : p ∉ ι) (hu : H p = some u) (h : ObjR K H ι o u) : Rep K H (ι ++ [p]) (S ++ [o]) := by
  refine ⟨by simp [r.len], ?_, fun n q a h1 h2 => ?_⟩
  · rw [List.nodup_append]
    exact ⟨r.nd, by simp, fun x hx y hy e => by
      have : y = p := by simpa using hy
      subst this; subst e; exact hn hx⟩
  · by_cases hn : n < S.length
    · rw [List.getElem?_append_left hn] at h1
      rw [List.getElem?_append_left (by rw [r.len]; exact hn)] at h2
      obtain ⟨u, q1, q2⟩ := r.ob n q a h1 h2
      exact ⟨u, q1, q2.mono (Gr.more p)⟩
    · have hn' : n = S.length := by
        have := (List.getElem?_eq_some_iff.mp h1).1
        simp at this; omega
      subst hn'
      rw [List.getElem?_append_right (Nat.le_refl _)] at h1
      rw [← r.len, List.getElem?_append_right (Nat.le_refl _)] at h2
      simp at h1 h2
      subst h1; subst h2
      exact ⟨u, hu, h.mono (Gr.more p)⟩
/-- an object of ours is written -/
theorem Rep.ext_write (r : Rep K H ι S) {n : Nat} {a : Addr} {o0 : O} (h0 : S[n]? = some o0) (hf : o0.frz = false) (ha : ι[n]? = some a) (u : HO) : Ext H ι (upd H a u) ι := by
  obtain ⟨v, hv, q0⟩ := r.ob n o0 a h0 ha
  have sv := q0.nst hf
  refine ⟨⟨⟨[], by simp⟩, fun b o so h => ?_⟩, fun b o hb h => ?_, fun b h => ?_, fun _ h => .inl h⟩
  · rw [upd_ne]
    · exact h
    · rintro rfl
      rw [hv] at h; cases h
      rw [sv] at so; cases so
  · rw [upd_ne]
    · exact h
    · rintro rfl
      exact hb (List.mem_of_getElem? ha)
  · by_cases e : b = a
    · subst e; rw [upd_same]; simp
    · rw [upd_ne e]; exact h
theorem Rep.write (r : Rep K H ι S) {n : Nat} {a : Addr} {o0 : O} (h0 : S[n]? = some o0) (hf : o0.frz = false) (ha : ι[n]? = some a) {o : O} {u : HO} (h : ObjR K H ι o u) : Rep K (upd H a u) ι (S.set n o) := by
  have ex := r.ext_write h0 hf ha u
  refine ⟨by simp [r.len], r.nd, fun m q b h1 h2 => ?_⟩
  by_cases hm : m = n
  · subst hm
    rw [ha] at h2; cases h2
    have hl : m < S.length := by
      have := (List.getElem?_eq_some_iff.mp h1).1
      simpa using this
    rw [List.getElem?_set_self hl] at h1
    cases h1
    exact ⟨u, upd_same, h.mono ex.toGr⟩
  · rw [List.getElem?_set_ne (Ne.symm hm)] at h1
    obtain ⟨v, q1, q2⟩ := r.ob m q b h1 h2
    have hb : b ≠ a := by
      rintro rfl
      exact hm ((List.getElem?_inj (List.getElem?_eq_some_iff.mp h2).1 r.nd).mp (h2.trans ha.symm))
    exact ⟨v, by rw [upd_ne hb]; exact q1, q2.mono ex.toGr⟩
end
end DL

namespace DL
open PySem PySem.Spec PyProof.Rows L2

abbrev St := L2.St
/-! ### results, and what is wanted of them -/
def R.bind {α β : Type} (r : R α) (k : α → Sto → R β) : R β := match r with
  | .ok a S => k a S
  | .err x S => .err x S
  | .bad => .bad
def R.seq {α : Type} (r : R α) (e : Env) (k : α → Sto → RS) : RS := match r with
  | .ok a S => k a S
  | .err x S => .err x e S
  | .bad => .bad
def RS.bind (r : RS) (k : Env → Sto → RS) : RS := match r with
  | .nx e S => k e S
  | r => r
/-- an exception's class and own dict -/
def XR (K : PySem.W.Frag) (H : Hp) (ι : List Addr) (x : Exn) (cls : Value) (dd : Option Addr) : Prop :=
  (∃ a : Addr, PySem.W.nsIn K mainGlobals x.C = some (some (.ref a)) ∧ cls = .ref a) ∧ match x.fs with
    | none => dd = none
    | some fs => ∃ a gs, dd = some a ∧ H a = some (.xd gs) ∧ DP K H ι fs gs
abbrev Rl (α β : Type) := Hp → List Addr → α → β → Prop
def ends {α β : Type} (K : PySem.W.Frag) (W : WX) (σ : St) (rel : Rl α β) (H : Hp) (ι : List Addr) (Q : β → Hp → Prop) : R α → Prop
  | .ok a S' => ∀ ι' H' b, Ext H ι H' ι' → Rep K H' ι' S' → rel H' ι' a b → Q b H'
  | .err x S' => ∀ ι' H' cls dd, Ext H ι H' ι' → Rep K H' ι' S' → XR K H' ι' x cls dd → W cls dd σ H'
  | .bad => False
/-- the frame's names -/
structure EnvR (K : PySem.W.Frag) (H : Hp) (ι : List Addr) (env : Env) (σ : St) : Prop where
  len : env.length = σ.length
  at_ : ∀ (i : Nat) (d : D), env[i]? = some (some d) → ∃ v, σ[i]? = some (some v) ∧ DV K H ι d v
theorem EnvR.mono {K : PySem.W.Frag} {H H' : Hp} {ι ι' : List Addr} {env : Env} {σ : St} (e : EnvR K H ι env σ) (x : Gr H ι H' ι') : EnvR K H' ι' env σ :=
  ⟨e.len, fun i d h => let ⟨v, h1, h2⟩ := e.at_ i d h; ⟨v, h1, h2.mono x⟩⟩
theorem EnvR.set {K : PySem.W.Frag} {H : Hp} {ι : List Addr} {env : Env} {σ : St} (e : EnvR K H ι env σ) {d : D} {v : V} (r : DV K H ι d v) (i : Nat) : EnvR K H ι (env.set i (some d)) (σ.set i (some v)) := by
  refine ⟨by simp [e.len], fun j d' h => ?_⟩
  by_cases hj : j = i
  · subst hj
    have hl : j < env.length := by have := (List.getElem?_eq_some_iff.mp h).1; simpa using this
    rw [List.getElem?_set_self hl] at h
    cases h
    exact ⟨v, List.getElem?_set_self (by rw [← e.len]; exact hl), r⟩
  · rw [List.getElem?_set_ne (Ne.symm hj)] at h
    rw [List.getElem?_set_ne (Ne.symm hj)]
    exact e.at_ j d' h
theorem EnvR.unset {K : PySem.W.Frag} {H : Hp} {ι : List Addr} {env : Env} {σ : St} (e : EnvR K H ι env σ) (i : Nat) (o : Option V) : EnvR K H ι (env.set i none) (σ.set i o) := by
  refine ⟨by simp [e.len], fun j d' h => ?_⟩
  by_cases hj : j = i
  · subst hj
    have hl : j < env.length := by have := (List.getElem?_eq_some_iff.mp h).1; simpa using this
    rw [List.getElem?_set_self hl] at h
    cases h
  · rw [List.getElem?_set_ne (Ne.symm hj)] at h
    rw [List.getElem?_set_ne (Ne.symm hj)]
    exact e.at_ j d' h
def tG {α β : Type} (K : PySem.W.Frag) (rel : Rl α β) (f : Env → Sto → R α) (W : WX) : St → Hp → (β → Hp → Prop) → Prop := fun σ H Q =>
  ∃ ι env S, Rep K H ι S ∧ EnvR K H ι env σ ∧ ends K W σ rel H ι Q (f env S)
abbrev tD (K : PySem.W.Frag) (f : Env → Sto → R D) (W : WX) : TE := tG K (DV K) f W
def eqR : Rl Bool Bool := fun _ _ a b => a = b
abbrev tBo (K : PySem.W.Frag) (f : Env → Sto → R Bool) (W : WX) : TT := tG K eqR f W
abbrev tAr (K : PySem.W.Frag) (f : Env → Sto → R (List D)) (W : WX) : TA := tG K (DVs K) f W
/-- a temporary list: tracked, not in the store -/
def tmpR (K : PySem.W.Frag) (H0 : Hp) : Rl (List D) V := fun H ι xs v => ∃ a vs, v = .ref a ∧ H0 a = none ∧ H a = some (.lst vs) ∧ DVs K H ι xs vs ∧ a ∉ ι
/-- a list to be read -/
def srcR (K : PySem.W.Frag) : Rl (List D) V := fun H ι xs v => ∃ a vs, v = .ref a ∧ SqL K H a vs ∧ DVs K H ι xs vs
abbrev tTm (K : PySem.W.Frag) (f : Env → Sto → R (List D)) (W : WX) : TE := fun σ H Q => tG K (tmpR K H) f W σ H Q
abbrev tSr (K : PySem.W.Frag) (f : Env → Sto → R (List D)) (W : WX) : TE := tG K (srcR K) f W
section
variable {α β γ δ : Type} {K : PySem.W.Frag} {W : WX} {σ : St} {rel : Rl α β} {rel2 : Rl γ δ} {H : Hp} {ι : List Addr} {Q : δ → Hp → Prop} {r : R α} {k : α → Sto → R γ}
theorem ends.imp {Q Q' : β → Hp → Prop} (h : ends K W σ rel H ι Q r) (q : ∀ b H', Q b H' → Q' b H') : ends K W σ rel H ι Q' r := by
  cases r with
  | ok a S => exact fun ι' H' b e p d => q _ _ (h ι' H' b e p d)
  | err x S => exact h
  | bad => exact h
theorem ends.bind (h : ends K W σ rel2 H ι Q (r.bind k)) : ends K W σ rel H ι (fun y H1 => ∃ ι1 x S1, r = .ok x S1 ∧ Ext H ι H1 ι1 ∧ Rep K H1 ι1 S1 ∧ rel H1 ι1 x y ∧ ends K W σ rel2 H1 ι1 Q (k x S1)) r := by
  cases r with
  | ok a S =>
    intro ι' H' b e p d
    refine ⟨ι', a, S, rfl, e, p, d, ?_⟩
    have h' : ends K W σ rel2 H ι Q (k a S) := h
    cases q : k a S with
    | ok c S2 =>
      rw [q] at h'
      exact fun ι2 H2 b2 e2 p2 d2 => h' ι2 H2 b2 (e.trans e2) p2 d2
    | err x S2 =>
      rw [q] at h'
      exact fun ι2 H2 cls dd e2 p2 d2 => h' ι2 H2 cls dd (e.trans e2) p2 d2
    | bad => rw [q] at h'; exact h'
  | err x S => exact h
  | bad => exact h
end
def endsS (K : PySem.W.Frag) (W : WX) (D : Ends) (H : Hp) (ι : List Addr) : RS → Prop
  | .nx e S' => ∀ ι' H' σ', Ext H ι H' ι' → Rep K H' ι' S' → EnvR K H' ι' e σ' → D.nx σ' H'
  | .bk e S' => ∀ ι' H' σ', Ext H ι H' ι' → Rep K H' ι' S' → EnvR K H' ι' e σ' → D.bk σ' H'
  | .ct e S' => ∀ ι' H' σ', Ext H ι H' ι' → Rep K H' ι' S' → EnvR K H' ι' e σ' → D.ct σ' H'
  | .rt d S' => ∀ ι' H' v, Ext H ι H' ι' → Rep K H' ι' S' → DV K H' ι' d v → D.rt v H'
  | .err x e S' => ∀ ι' H' cls dd σ', Ext H ι H' ι' → Rep K H' ι' S' → EnvR K H' ι' e σ' → XR K H' ι' x cls dd → W cls dd σ' H'
  | .bad => False
def tS (K : PySem.W.Frag) (f : Env → Sto → RS) (W : WX) : TS := fun D σ H => ∃ ι env S, Rep K H ι S ∧ EnvR K H ι env σ ∧ endsS K W D H ι (f env S)
theorem endsS.after {K : PySem.W.Frag} {W : WX} {D : Ends} {H H1 : Hp} {ι ι1 : List Addr} {r : RS} (e : Ext H ι H1 ι1) (h : endsS K W D H ι r) : endsS K W D H1 ι1 r := by
  cases r with
  | nx _ _ => exact fun ι2 H2 s2 e2 p2 d2 => h ι2 H2 s2 (e.trans e2) p2 d2
  | bk _ _ => exact fun ι2 H2 s2 e2 p2 d2 => h ι2 H2 s2 (e.trans e2) p2 d2
  | ct _ _ => exact fun ι2 H2 s2 e2 p2 d2 => h ι2 H2 s2 (e.trans e2) p2 d2
  | rt _ _ => exact fun ι2 H2 s2 e2 p2 d2 => h ι2 H2 s2 (e.trans e2) p2 d2
  | err _ _ _ => exact fun ι2 H2 c d s2 e2 p2 d2 => h ι2 H2 c d s2 (e.trans e2) p2 d2
  | bad => exact h
theorem endsS.bind {α β : Type} {K : PySem.W.Frag} {W : WX} {σ : St} {rel : Rl α β} {D : Ends} {H : Hp} {ι : List Addr} {env : Env} {r : R α} {k : α → Sto → RS} (en : EnvR K H ι env σ) (h : endsS K W D H ι (r.seq env k)) :
    ends K W σ rel H ι (fun y H1 => ∃ ι1 x S1, r = .ok x S1 ∧ Ext H ι H1 ι1 ∧ Rep K H1 ι1 S1 ∧ rel H1 ι1 x y ∧ endsS K W D H1 ι1 (k x S1)) r := by
  cases r with
  | ok a S => exact fun ι' H' b e p d => ⟨ι', a, S, rfl, e, p, d, endsS.after e h⟩
  | err x S => exact fun ι' H' cls dd e p d => h ι' H' cls dd σ e p (en.mono e.toGr) d
  | bad => exact h

/-! ### the context's facts -/
structure Ctx0 (X : Cx) (W : WX) (N : List Str) (vis loc : List Nat) (gls : List Str) : Prop where
  hN : X.N = N
  nd : N.Nodup
  tk : L2N.Takes X W
  hv : ∀ i ∈ vis, ∀ x, N[i]? = some x → Vis X.env.scope x
  hl : ∀ i ∈ loc, ∀ x, N[i]? = some x → Loc X.env.scope x ∧ (X.fn x = true ∨ X.env.scope.names.lookup x = some .local)
  hg : ∀ x ∈ gls, Gl X x
structure Ctx (X : Cx) (W : WX) (k : Nat) (N : List Str) (vis loc : List Nat) (gls : List Str) : Prop extends Ctx0 X W N vis loc gls where
  calm : X.calm = true
  hp : PassesOwn (model X.prog X.w) X.A X.env X.xe
  hr : Room k X.A

section
variable {X : Cx} {W : WX} {k : Nat} {N : List Str} {vis loc : List Nat} {gls : List Str} {a b e : Expr} {es : List Expr} {fa fb fc : Env → Sto → R D} {pos : Pos}
theorem PE.imp {t t' : TE} (h : PE X e t) (q : ∀ σ H Q, t' σ H Q → t σ H Q) : PE X e t' := ⟨fun pins s σ H Q I hw => h.run pins s σ H Q I (q σ H Q hw)⟩
theorem PT.imp {t t' : TT} (h : PT X e t) (q : ∀ σ H Q, t' σ H Q → t σ H Q) : PT X e t' := ⟨fun pins s σ H Q I hw => h.run pins s σ H Q I (q σ H Q hw)⟩
theorem PA.imp {t t' : TA} (h : PA X es t) (q : ∀ σ H Q, t' σ H Q → t σ H Q) : PA X es t' := ⟨fun pos pins s σ H Q I hw => h.run pos pins s σ H Q I (q σ H Q hw)⟩

/-! ### names and constants -/
def eVar (i : Nat) : Env → Sto → R D := fun env S => match env[i]? with
  | some (some d) => .ok d S
  | _ => .bad
def eC (d : D) : Env → Sto → R D := fun _ S => .ok d S
theorem de_var0 (c : Ctx0 X W N vis loc gls) (i : Nat) {x : Str} (hN : N[i]? = some x := by rfl) (hv : vis.contains i = true := by rfl) (hd : (x == ("__debug__" : Str)) = false := by decide +kernel) (hcd : (x == ("__classdict__" : Str)) = false := by decide +kernel) :
    PE X (.Name x pos) (tD X.K (eVar i) W) := by
  refine PE.imp (pe_var (by rw [c.hN]; exact hN) (c.hv i (by simpa using hv) x hN) hd hcd) fun σ H Q ⟨ι, env, S, r, en, h⟩ => ?_
  unfold eVar at h
  split at h
  · rename_i d hd
    obtain ⟨v, h1, h2⟩ := en.at_ i d hd
    exact ⟨v, h1, h ι H v (Ext.refl _ _) r h2⟩
  · exact h.elim
theorem de_var (c : Ctx X W k N vis loc gls) (i : Nat) {x : Str} (hN : N[i]? = some x := by rfl) (hv : vis.contains i = true := by rfl) (hd : (x == ("__debug__" : Str)) = false := by decide +kernel) (hcd : (x == ("__classdict__" : Str)) = false := by decide +kernel) :
    PE X (.Name x pos) (tD X.K (eVar i) W) := de_var0 c.toCtx0 i hN hv hd hcd
theorem de_const {t : TE} {d : D} {v : V} (h : PE X e (tC v)) (hd : ∀ H ι, DV X.K H ι d v) : PE X e (tD X.K (eC d) W) :=
  PE.imp h fun σ H Q ⟨ι, env, S, r, en, h⟩ => h ι H v (Ext.refl _ _) r (hd _ _)
theorem de_int {i j} : PE X (.Constant (.int i) j pos) (tD X.K (eC (.int i)) W) := de_const (t := tC .non) pe_int fun _ _ => .int _
theorem de_bl {b j} : PE X (.Constant (.bool b) j pos) (tD X.K (eC (.bl b)) W) := de_const (t := tC .non) pe_bl fun _ _ => .bl _
theorem de_non {j} : PE X (.Constant .none j pos) (tD X.K (eC .non) W) := de_const (t := tC .non) pe_non fun _ _ => .non
theorem de_str {x j} : PE X (.Constant (.str x) j pos) (tD X.K (eC (.str x)) W) := de_const (t := tC .non) pe_str fun _ _ => .str _
/-- a module's name: an int, a text, a def, a class -/
def conD : V → D
  | .int i => .int i
  | .str x => .str x
  | .bl b => .bl b
  | v => .con v
theorem conD_ok {K : PySem.W.Frag} {H : Hp} {ι : List Addr} (v : V) : DV K H ι (conD v) v := by
  cases v <;> constructor
theorem de_glob (c : Ctx X W k N vis loc gls) (v : V) {x : Str} {u : Value} (hm : X.mg x = some u) (r : RelV v u) (hg : gls.contains x = true := by decide +kernel) (hd : (x == ("__debug__" : Str)) = false := by decide +kernel) :
    PE X (.Name x pos) (tD X.K (eC (conD v)) W) := de_const (t := tC .non) (pe_glob (c.hg x (by simpa using hg)) hm r hd) fun _ _ => conD_ok v

/-! ### operators -/
def OpD (X : Cx) (W : WX) (f : Value → Value → Sem Value) (g : D → D → Sto → R D) : Prop :=
  ∀ (pins : List (Addr × Obj)) (s : Shared) (σ : St) (H : Hp) (ι : List Addr) (S : Sto) (x y : D) (x' y' : V) (u v : Value) (Q : VK), Inv X pins σ H s → Rep X.K H ι S → DV X.K H ι x x' → DV X.K H ι y y' → RelV x' u → RelV y' v →
    ends X.K W σ (DV X.K) H ι Q (g x y S) → wpAny (model X.prog X.w) X.A (f u v) (EP X pins σ Q) X.xe s
def eBin (g : D → D → Sto → R D) (fa fb : Env → Sto → R D) : Env → Sto → R D := fun env S => (fa env S).bind fun x S1 => (fb env S1).bind fun y S2 => g x y S2
theorem two_go (ha : PE X a (tD X.K fa W)) (hb : PE X b (tD X.K fb W)) {α β : Type} {rel : Rl α β} {g : D → D → Sto → R α} {Q : β → Hp → Prop} {P : Value → Shared → Prop} {f : Value → Value → Sem Value} {pins : List (Addr × Obj)} {s : Shared} {σ : St} {H : Hp} {ι : List Addr} {env : Env} {S : Sto}
    (I : Inv X pins σ H s) (r : Rep X.K H ι S) (en : EnvR X.K H ι env σ) (h : ends X.K W σ rel H ι Q ((fa env S).bind fun x S1 => (fb env S1).bind fun y S2 => g x y S2))
    (hf : ∀ u v s2 x y x' y' H2 ι2 S2, Inv X pins σ H2 s2 → Rep X.K H2 ι2 S2 → EnvR X.K H2 ι2 env σ → DV X.K H2 ι2 x x' → DV X.K H2 ι2 y y' → RelV x' u → RelV y' v → ends X.K W σ rel H2 ι2 Q (g x y S2) → wpAny (model X.prog X.w) X.A (f u v) P X.xe s2) :
    wpAny (model X.prog X.w) X.A (eval a X.env) (fun u s₁ => wpAny (model X.prog X.w) X.A (eval b X.env) (fun v s₂ => wpAny (model X.prog X.w) X.A (f u v) P X.xe s₂) X.xe s₁) X.xe s := by
  refine thn (ha.run pins s σ H _ I ⟨ι, env, S, r, en, ends.bind h⟩) fun u s1 ⟨x', H1, I1, rx, ι1, x, S1, _, e1, r1, d1, h1⟩ => ?_
  refine thn (hb.run pins s1 σ H1 _ I1 ⟨ι1, env, S1, r1, en.mono e1.toGr, ends.bind h1⟩) fun v s2 ⟨y', H2, I2, ry, ι2, y, S2, _, e2, r2, d2, h2⟩ => ?_
  exact hf u v s2 x y x' y' H2 ι2 S2 I2 r2 ((en.mono e1.toGr).mono e2.toGr) (d1.mono e2.toGr) d2 rx ry h2
theorem de_bin {op : Operator} {g : D → D → Sto → R D} (ho : OpD X W (binaryOp op) g) (ha : PE X a (tD X.K fa W)) (hb : PE X b (tD X.K fb W)) : PE X (.BinOp a op b pos) (tD X.K (eBin g fa fb) W) := by
  refine ⟨fun pins s σ H Q I ⟨ι, env, S, r, en, h⟩ => wpAny_BinOp (two_go ha hb I r en h fun u v s2 x y x' y' H2 ι2 S2 I2 r2 _ d1 d2 rx ry h2 => ?_)⟩
  exact ho pins s2 σ H2 ι2 S2 x y x' y' u v Q I2 r2 d1 d2 rx ry h2
theorem de_cmp {op : CmpOp} {g : D → D → Sto → R D} (ho : OpD X W (compareOp op) g) (ha : PE X a (tD X.K fa W)) (hb : PE X b (tD X.K fb W)) (hm : behindInMarks op b = false := by first | exact nomark _ | rfl) : PE X (.Compare a [op] [b] pos) (tD X.K (eBin g fa fb) W) := by
  refine ⟨fun pins s σ H Q I ⟨ι, env, S, r, en, h⟩ => wpAny_Compare1 (two_go ha hb I r en h fun u v s2 x y x' y' H2 ι2 S2 I2 r2 _ d1 d2 rx ry h2 => ?_) hm⟩
  exact ho pins s2 σ H2 ι2 S2 x y x' y' u v Q I2 r2 d1 d2 rx ry h2
/-- an operator on values by the hand layer's rule -/
theorem opD_of {f : Value → Value → Sem Value} {g : D → D → Sto → R D} {r : R2} (ho : OpR X f r)
    (h : ∀ (σ : St) (H : Hp) (ι : List Addr) (S : Sto) (x y : D) (x' y' : V) (Q : VK), Rep X.K H ι S → DV X.K H ι x x' → DV X.K H ι y y' → ends X.K W σ (DV X.K) H ι Q (g x y S) → r x' y' H Q) : OpD X W f g :=
  fun pins s σ H ι S x y x' y' u v Q I rp dx dy rx ry q => ho pins s σ H x' y' u v Q I rx ry (h σ H ι S x y x' y' Q rp dx dy q)
end
end DL

namespace DL
open PySem PySem.Spec PyProof.Rows L2
section
variable {K : PySem.W.Frag} {H : Hp} {ι : List Addr} {S : Sto}
/-- what an object of the store is in the heap -/
theorem Rep.lst (r : Rep K H ι S) {n : Nat} {a : Addr} {xs : List D} (h : S[n]? = some (.lst xs)) (ha : ι[n]? = some a) : ∃ vs, H a = some (.lst vs) ∧ DVs K H ι xs vs := by
  obtain ⟨u, h1, h2⟩ := r.ob n _ a h ha
  cases h2 with
  | lst d => exact ⟨_, h1, d⟩
theorem Rep.dK (r : Rep K H ι S) {n : Nat} {a : Addr} {xs : List (Key × D)} (h : S[n]? = some (.dK xs)) (ha : ι[n]? = some a) : ∃ vs, H a = some (.dK vs) ∧ DP K H ι xs vs := by
  obtain ⟨u, h1, h2⟩ := r.ob n _ a h ha
  cases h2 with
  | dK d => exact ⟨_, h1, d⟩
theorem Rep.dT (r : Rep K H ι S) {n : Nat} {a : Addr} {xs : List (List Key × D)} (h : S[n]? = some (.dT xs)) (ha : ι[n]? = some a) : ∃ vs, H a = some (.dT vs) ∧ DP K H ι xs vs := by
  obtain ⟨u, h1, h2⟩ := r.ob n _ a h ha
  cases h2 with
  | dT d => exact ⟨_, h1, d⟩
theorem Rep.ins (r : Rep K H ι S) {n : Nat} {a C : Addr} {fs : List (Str × D)} (h : S[n]? = some (.ins C fs)) (ha : ι[n]? = some a) : ∃ dx gs, H a = some (.ins C dx gs) ∧ DP K H ι fs gs := by
  obtain ⟨u, h1, h2⟩ := r.ob n _ a h ha
  cases h2 with
  | ins d => exact ⟨_, _, h1, d⟩
theorem Rep.fK (r : Rep K H ι S) {n : Nat} {a : Addr} {xs : List (Key × D)} (h : S[n]? = some (.fK xs)) (ha : ι[n]? = some a) : ∃ o vs, H a = some (.frz o (.dK vs)) ∧ DP K H ι xs vs := by
  obtain ⟨u, h1, h2⟩ := r.ob n _ a h ha
  cases h2 with
  | fK d => exact ⟨_, _, h1, d⟩
theorem Rep.fT (r : Rep K H ι S) {n : Nat} {a : Addr} {xs : List (List Key × D)} (h : S[n]? = some (.fT xs)) (ha : ι[n]? = some a) : ∃ o vs, H a = some (.frz o (.dT vs)) ∧ DP K H ι xs vs := by
  obtain ⟨u, h1, h2⟩ := r.ob n _ a h ha
  cases h2 with
  | fT d => exact ⟨_, _, h1, d⟩
/-- an end with a new tuple -/
theorem ends.tup {W : WX} {σ : St} {Q : VK} {ds : List D} {vs : List V} {S' : Sto} (r : Rep K H ι S') (d : DVs K H ι ds vs) (h : ends K W σ (DV K) H ι Q (.ok (.tup ds) S')) {p : Addr} (hp : H p = none) : Q (.ref p) (upd H p (.tup vs)) :=
  h ι _ _ (Ext.junk _ hp) (r.junk _ hp) (.tup upd_same (d.mono (Ext.junk _ hp).toGr))
/-- an end with a new object of the store -/
theorem ends.new {W : WX} {σ : St} {Q : VK} {o : O} {u : HO} (r : Rep K H ι S) (d : ObjR K H ι o u) (h : ends K W σ (DV K) H ι Q (.ok (.ref S.length) (S ++ [o]))) {p : Addr} (hp : H p = none) : Q (.ref p) (upd H p u) :=
  h _ _ _ (Ext.adopt _ hp) (r.adopt hp d) (.ref (by rw [← r.len]; simp))
end

/-! ### arithmetic -/
def dAdd (x y : D) (S : Sto) : R D := match x, y with
  | .int i, .int j => .ok (.int (i + j)) S
  | .str a, .str b => if a.length + b.length ≤ sizeLine then .ok (.str (a ++ b)) S else .bad
  | .tup a, .tup b => if a.length + b.length ≤ sizeLine then .ok (.tup (a ++ b)) S else .bad
  | .ref n, .ref m => (match S[n]?, S[m]? with
    | some (.lst a), some (.lst b) => if a.length + b.length ≤ sizeLine then .ok (.ref S.length) (S ++ [.lst (a ++ b)]) else .bad
    | _, _ => .bad)
  | _, _ => .bad
def dSub (x y : D) (S : Sto) : R D := match x, y with
  | .int i, .int j => .ok (.int (i - j)) S
  | _, _ => .bad
def dMul (x y : D) (S : Sto) : R D := match x, y with
  | .int i, .int j => if i.natAbs.log2 + j.natAbs.log2 < 1000000 then .ok (.int (i * j)) S else .bad
  | _, _ => .bad
def dDiv (x y : D) (S : Sto) : R D := match x, y with
  | .int i, .int j => if 0 < j ∧ j.natAbs.log2 < 9000 then .ok (.int (i / j)) S else .bad
  | _, _ => .bad
def dMod (x y : D) (S : Sto) : R D := match x, y with
  | .int i, .int j => if 0 < j then .ok (.int (i % j)) S else .bad
  | _, _ => .bad
def dPow (x y : D) (S : Sto) : R D := match x, y with
  | .int i, .int j => if 0 ≤ j ∧ j ≤ 1000000 ∧ i.natAbs < 2 ^ 64 then .ok (.int (i ^ j.toNat)) S else .bad
  | _, _ => .bad
section
variable {X : Cx} {W : WX}
/-- two ints -/
theorem opD_int {f : Value → Value → Sem Value} {g : D → D → Sto → R D} {C : Int → Int → Prop} {h : Int → Int → D} {h' : Int → Int → V} (ho : OpR X f (rI C h')) (hd : ∀ K H ι i j, DV K H ι (h i j) (h' i j))
    (hg : ∀ x y S, (∃ i j, x = D.int i ∧ y = .int j ∧ C i j ∧ g x y S = .ok (h i j) S) ∨ g x y S = .bad) : OpD X W f g := by
  refine opD_of ho fun σ H ι S x y x' y' Q rp dx dy q => ?_
  rcases hg x y S with ⟨i, j, rfl, rfl, hc, e⟩ | e
  · rw [e] at q
    cases dx
    cases dy
    exact ⟨i, j, rfl, rfl, hc, q ι H _ (Ext.refl _ _) rp (hd _ _ _ _ _)⟩
  · rw [e] at q; exact q.elim
theorem rI_of {f : Value → Value → Sem Value} {g : Int → Int → V} (h : OpR X f (rI0 g)) : OpR X f (rI (fun _ _ => True) g) := fun pins s σ H x y v u Q I rx ry ⟨i, j, a, b, _, q⟩ => h pins s σ H x y v u Q I rx ry ⟨i, j, a, b, q⟩
theorem ad_sub : OpD X W (binaryOp .Sub) dSub := opD_int (h := fun i j => .int (i - j)) (rI_of op_sub) (fun _ _ _ _ _ => .int _) fun x y S => by
  cases x <;> cases y <;> simp [dSub]
theorem ad_mul : OpD X W (binaryOp .Mult) dMul := opD_int (h := fun i j => .int (i * j)) op_mulW (fun _ _ _ _ _ => .int _) fun x y S => by
  cases x <;> cases y <;> simp [dMul, CMulW]
  exact Nat.lt_or_ge _ _
theorem ad_div : OpD X W (binaryOp .FloorDiv) dDiv := opD_int (h := fun i j => .int (i / j)) op_fdivW (fun _ _ _ _ _ => .int _) fun x y S => by
  cases x <;> cases y <;> simp [dDiv, CDivW]
  exact fun _ => Nat.lt_or_ge _ _
theorem ad_mod : OpD X W (binaryOp .Mod) dMod := opD_int (h := fun i j => .int (i % j)) op_mod (fun _ _ _ _ _ => .int _) fun x y S => by
  cases x <;> cases y <;> simp [dMod]
  exact Int.lt_or_le _ _
theorem ad_pow : OpD X W (binaryOp .Pow) dPow := opD_int (h := fun i j => .int (i ^ j.toNat)) op_pow (fun _ _ _ _ _ => .int _) fun x y S => by
  cases x <;> cases y <;> simp [dPow, CPow]
  exact fun _ _ => Nat.lt_or_ge _ _
theorem ad_add : OpD X W (binaryOp .Add) dAdd := by
  refine opD_of (op_add.or (op_add_str.or (op_catA.or op_cat))) fun σ H ι S x y x' y' Q rp dx dy q => ?_
  cases dx <;> cases dy <;> try exact q.elim
  case int.int i j => exact .inl ⟨i, j, rfl, rfl, q ι H _ (Ext.refl _ _) rp (.int _)⟩
  case str.str a b =>
    simp only [dAdd] at q
    split at q
    · rename_i hz
      exact .inr (.inl ⟨a, b, rfl, rfl, hz, q ι H _ (Ext.refl _ _) rp (.str _)⟩)
    · exact q.elim
  case tup.tup a vs ds h1 d1 b us es h2 d2 =>
    simp only [dAdd] at q
    split at q
    · rename_i hz
      refine .inr (.inr (.inl ⟨a, b, vs, us, rfl, rfl, SqT.of h1, SqT.of h2, by rw [← d1.length, ← d2.length]; exact hz, fun e => ?_, fun _ e => ?_, fun _ _ p hp => ?_⟩))
      · subst e
        cases d1
        exact q ι H _ (Ext.refl _ _) rp (.tup h2 d2)
      · subst e
        cases d2
        rw [List.append_nil] at q
        exact q ι H _ (Ext.refl _ _) rp (.tup h1 d1)
      · exact ends.tup rp (d1.append d2) q hp
    · exact q.elim
  case ref.ref n a ha m b hb =>
    simp only [dAdd] at q
    split at q
    · rename_i xs ys h1 h2
      split at q
      · rename_i hz
        obtain ⟨vs, e1, d1⟩ := rp.lst h1 ha
        obtain ⟨us, e2, d2⟩ := rp.lst h2 hb
        exact .inr (.inr (.inr ⟨a, b, vs, us, rfl, rfl, e1, e2, by rw [← d1.length, ← d2.length]; exact hz, fun p hp => ends.new rp (.lst (d1.append d2)) q hp⟩))
      · exact q.elim
    · exact q.elim
end

/-! ### data as the library's -/
def toPy (S : Sto) : Nat → D → Option PyData
  | 0, _ => none
  | _ + 1, .non => some .none
  | _ + 1, .bl b => some (.bool b)
  | _ + 1, .int i => some (.int i)
  | _ + 1, .str x => some (.str x)
  | n + 1, .tup xs => (xs.mapM (toPy S n)).map .tuple
  | n + 1, .ref k => (match S[k]? with
    | some (.lst xs) => (xs.mapM (toPy S n)).map .list
    | _ => none)
  | _ + 1, .con _ => none
  | _ + 1, .scr ns => some (.list (ns.map .int))
theorem dp_ints (K : PySem.W.Frag) (H : Hp) : ∀ ns : List Int, DpAll K H (ns.map V.int) (ns.map PyData.int)
  | [] => .nil
  | i :: r => .cons (.int i) (dp_ints K H r)
theorem toPy_ok {K : PySem.W.Frag} {H : Hp} {ι : List Addr} {S : Sto} (r : Rep K H ι S) : ∀ (n : Nat) (d : D) (v : V) (e : PyData), DV K H ι d v → toPy S n d = some e → Dp K H v e := by
  intro n
  induction n with
  | zero => intro d v e _ h; cases h
  | succ n ih =>
    have all : ∀ (ds : List D) (vs : List V) (es : List PyData), DVs K H ι ds vs → ds.mapM (toPy S n) = some es → DpAll K H vs es := by
      intro ds
      induction ds with
      | nil => intro vs es d h; cases d; simp at h; subst h; exact .nil
      | cons x xs ihx =>
        intro vs es d h
        cases d with
        | cons d1 d2 =>
          rw [List.mapM_cons] at h
          cases q : toPy S n x with
          | none => rw [q] at h; simp at h
          | some y =>
            rw [q] at h
            cases q2 : xs.mapM (toPy S n) with
            | none => rw [q2] at h; simp at h
            | some ys =>
              rw [q2] at h
              simp at h
              subst h
              exact .cons (ih _ _ _ d1 q) (ihx _ _ d2 q2)
    intro d v e dv h
    cases dv with
    | non => simp [toPy] at h; subst h; exact .non
    | bl b => simp [toPy] at h; subst h; exact .bl b
    | int i => simp [toPy] at h; subst h; exact .int i
    | str x => simp [toPy] at h; subst h; exact .str x
    | @tup a vs ds h1 d1 =>
      simp only [toPy] at h
      cases q : ds.mapM (toPy S n) with
      | none => rw [q] at h; simp at h
      | some es => rw [q] at h; simp at h; subst h; exact .tup (SqT.of h1) (all _ _ _ d1 q)
    | @ref k a ha =>
      simp only [toPy] at h
      split at h
      · rename_i xs hs
        obtain ⟨vs, e1, d1⟩ := r.lst hs ha
        cases q : xs.mapM (toPy S n) with
        | none => rw [q] at h; simp at h
        | some es => rw [q] at h; simp at h; subst h; exact .lst (SqL.of e1) (all _ _ _ d1 q)
      · cases h
    | con v => simp [toPy] at h
    | @scr a ns hs =>
      simp [toPy] at h
      subst h
      exact .lst hs.seq (dp_ints K H ns)
/-- == -/
def dEqB (S : Sto) (x y : D) : Option Bool := match toPy S 12 x, toPy S 12 y with
  | some d, some e => if SeqAt.shaped d = true ∧ SeqAt.shaped e = true then some (PyData.eqv d e) else none
  | _, _ => none
def ofB (o : Option Bool) (S : Sto) : R D := match o with
  | some b => .ok (.bl b) S
  | none => .bad
def dEq (x y : D) (S : Sto) : R D := ofB (dEqB S x y) S
def dNe (x y : D) (S : Sto) : R D := ofB ((dEqB S x y).map not) S
section
variable {X : Cx} {W : WX} {k : Nat} {N : List Str} {vis loc : List Nat} {gls : List Str}
theorem dEqB_ok {K : PySem.W.Frag} {H : Hp} {ι : List Addr} {S : Sto} (rp : Rep K H ι S) {x y : D} {x' y' : V} {b : Bool} (dx : DV K H ι x x') (dy : DV K H ι y y') (h : dEqB S x y = some b) :
    ∃ d e, Dp K H x' d ∧ Dp K H y' e ∧ SeqAt.shaped d = true ∧ SeqAt.shaped e = true ∧ PyData.eqv d e = b := by
  unfold dEqB at h
  split at h
  · rename_i d e h1 h2
    split at h
    · rename_i hz
      cases h
      exact ⟨d, e, toPy_ok rp _ _ _ _ dx h1, toPy_ok rp _ _ _ _ dy h2, hz.1, hz.2, rfl⟩
    · cases h
  · cases h
theorem ofB_end {K : PySem.W.Frag} {H : Hp} {ι : List Addr} {S : Sto} {σ : St} {Q : VK} {o : Option Bool} (rp : Rep K H ι S) (h : ends K W σ (DV K) H ι Q (ofB o S)) : ∃ b, o = some b ∧ Q (.bl b) H := by
  cases o with
  | none => exact h.elim
  | some b => exact ⟨b, rfl, h ι H _ (Ext.refl _ _) rp (.bl b)⟩
theorem cd_eq (c : Ctx X W k N vis loc gls) : OpD X W (compareOp .Eq) dEq := by
  refine opD_of (op_eqD c.hr.units) fun σ H ι S x y x' y' Q rp dx dy q => ?_
  obtain ⟨b, e, q⟩ := ofB_end rp q
  obtain ⟨d1, d2, h1, h2, s1, s2, rfl⟩ := dEqB_ok rp dx dy e
  exact ⟨d1, d2, h1, h2, s1, s2, q⟩
theorem cd_ne (c : Ctx X W k N vis loc gls) : OpD X W (compareOp .NotEq) dNe := by
  refine opD_of (op_neD c.hr.units) fun σ H ι S x y x' y' Q rp dx dy q => ?_
  obtain ⟨b, e, q⟩ := ofB_end rp q
  cases z : dEqB S x y with
  | none => rw [z] at e; cases e
  | some b' =>
    rw [z] at e
    obtain ⟨d1, d2, h1, h2, s1, s2, rfl⟩ := dEqB_ok rp dx dy z
    cases e
    exact ⟨d1, d2, h1, h2, s1, s2, q⟩
/-- is None, is True -/
def dIs (x y : D) (S : Sto) : R D := match y with
  | .non => .ok (.bl (match x with | .non => true | _ => false)) S
  | .bl b => (match x with | .bl a => .ok (.bl (decide (a = b))) S | _ => .bad)
  | _ => .bad
def dIsNot (x y : D) (S : Sto) : R D := (dIs x y S).bind fun d S => match d with
  | .bl b => .ok (.bl (!b)) S
  | _ => .bad
theorem DV.non_iff {K : PySem.W.Frag} {H : Hp} {ι : List Addr} {x : D} {x' : V} (d : DV K H ι x x') (hc : ∀ v, x ≠ .con v) : decide (x' = V.non) = (match x with | .non => true | _ => false) := by
  cases d <;> first | rfl | exact absurd rfl (hc _)
end
end DL

/-! order of data: tuples whose places are compared only as far as the first that differs -/
namespace DL
open PySem PySem.SeqAt
open PySem.AutoSeq1 (wpAny_loadPart')
open PySem.MeetsSeq PySem.MeetsSeq2 PySem.MeetsSeq3
open Ob (RcOp lexAt)
/-- the places ahead of j are all equal -/
def UpTo (e : Nat → Bool) (j : Nat) : Prop := ∀ i, i < j → e i = true
theorem lexAt_step {e r : Nat → Bool} {z : Bool} {i m : Nat} (h : i < m) : lexAt e r z i (m - i) = if e i = true then lexAt e r z (i + 1) (m - (i + 1)) else r i := by
  have q : m - i = (m - (i + 1)) + 1 := by omega
  rw [q]; rfl
section
variable {e r : Nat → Bool} {P : Nat → Prop}
theorem zip_at {xs ys : List Value} {i : Nat} {p : Value × Value} {t : List (Value × Value)} (h : p :: t = (xs.zip ys).drop i) : ∃ (h1 : i < xs.length) (h2 : i < ys.length), p = (xs[i], ys[i]) ∧ t = (xs.zip ys).drop (i + 1) := by
  have hl : i < (xs.zip ys).length := by
    rcases Nat.lt_or_ge i (xs.zip ys).length with q | q
    · exact q
    · rw [List.drop_of_length_le q] at h; cases h
  rw [List.drop_eq_getElem_cons hl] at h
  injection h with a b
  have hz : (xs.zip ys).length = min xs.length ys.length := by simp
  refine ⟨by omega, by omega, ?_, b⟩
  rw [a]; simp
theorem zip_end {xs ys : List Value} {i : Nat} (h : [] = (xs.zip ys).drop i) : min xs.length ys.length - i = 0 := by
  have q := congrArg List.length h
  simp at q
  omega
end

theorem tup_lt_at (l b : Addr) (items items2 : Array Value) (n n2 : Nat) (dd dd2 : Option Addr) (sl sl2 : Array (Option Value)) (e r : Nat → Bool) :
    Meets (Builtin.«tuple.__lt__» ⟨[.ref l, .ref b], []⟩)
      (fun A R s => s.heap.get? l = some { cls := .type "tuple", dict := dd, data := .seq items n, slots := sl } ∧ s.heap.get? b = some { cls := .type "tuple", dict := dd2, data := .seq items2 n2, slots := sl2 } ∧
        (∀ j (h1 : j < items.size) (h2 : j < items2.size), UpTo e j → EqAt A.in1 s items[j] items2[j] (e j)) ∧
        (∀ j (h1 : j < items.size) (h2 : j < items2.size), UpTo e j → e j = false → Ob.RcOp .Lt A.in1 s items[j] items2[j] (r j)) ∧
        R (.ok (.ret (.bool (lexAt e r (decide (items.size < items2.size)) 0 (min items.size items2.size))))) s) :=
  .of_wp fun prog w A R s h => by
    obtain ⟨hp, g, d, tk, os⟩ := s
    obtain ⟨hl, hb, he, hr, h⟩ := h
    have f2 := AutoSeq1.sub_tuple_tuple
    wp_walk using wpAny_loadPart' hl, wpAny_loadPart' hb, wpAny_forIn_list _ (fun rest c s' => c.1 = none ∧ s' = ⟨hp, g, d, tk, os⟩ ∧ ∃ i, UpTo e i ∧ rest = (items.toList.zip items2.toList).drop i ∧
      R (.ok (.ret (.bool (lexAt e r (decide (items.size < items2.size)) i (min items.size items2.size - i))))) ⟨hp, g, d, tk, os⟩) _
    case turn =>
      rintro ⟨y, x⟩ rest c s' ⟨hc, rfl, i, hu, hz, hR⟩
      obtain ⟨h1, h2, hp, ht⟩ := zip_at hz
      obtain ⟨rfl, rfl⟩ := Prod.mk.inj hp
      simp only [Array.length_toList] at h1 h2
      simp only [Array.getElem_toList]
      rw [lexAt_step (show i < min items.size items2.size by omega)] at hR
      refine wpAny_bind (he i h1 h2 hu prog w _ _ ?_)
      cases hei : e i with
      | true =>
        rw [hei, if_pos rfl] at hR
        wp_walk
        exact ⟨rfl, rfl, i + 1, fun j hj => (Nat.lt_or_eq_of_le (Nat.le_of_lt_succ hj)).elim (hu j) fun z => z ▸ hei, ht, hR⟩
      | false =>
        rw [hei, if_neg Bool.false_ne_true] at hR
        have go := hr i h1 h2 hu hei prog w
        wp_walk using go
        exact ⟨_, rfl, by simpa using hR⟩
    case fin =>
      rintro ⟨b1, b2⟩ s' ⟨hc, rfl, i, _, hz, hR⟩
      simp only at hc
      subst hc
      have q := zip_end hz
      simp only [Array.length_toList] at q
      rw [q] at hR
      wp_walk
      exact ⟨_, rfl, by simpa [Builtin.Tuple.tupleCompareSizes, lexAt] using hR⟩
    case h => exact ⟨rfl, rfl, 0, fun j hj => absurd hj (Nat.not_lt_zero _), rfl, by simpa using h⟩
theorem rc_tup_lt {A : Around} {s : Shared} {l b : Addr} {items items2 : Array Value} {e r : Nat → Bool} (hl : s.heap.IsTuple l items) (hb : s.heap.IsTuple b items2) (hu : A.units < cLine)
    (he : ∀ j (h1 : j < items.size) (h2 : j < items2.size), UpTo e j → EqAt A.in1 s items[j] items2[j] (e j))
    (hr : ∀ j (h1 : j < items.size) (h2 : j < items2.size), UpTo e j → e j = false → Ob.RcOp .Lt A.in1 s items[j] items2[j] (r j)) :
    Ob.RcOp .Lt A s (.ref l) (.ref b) (lexAt e r (decide (items.size < items2.size)) 0 (min items.size items2.size)) := fun prog w E Q h => by
  obtain ⟨⟨c1, d1, t1, s1⟩, ho, hc, n, hd⟩ := id hl
  obtain ⟨⟨c2, d2, t2, s2⟩, ho2, hc2, n2, hd2⟩ := id hb
  simp only at hc hd hc2 hd2
  subst hc hd hc2 hd2
  exact richCompare_meets_room (op := .Lt) ⟨_, ho, rfl⟩ ⟨_, ho2, rfl⟩ F.slot_tuple_lt F.entry_tuple_lt (F.args_tuple_lt_2 _ _) (tup_lt_at l b items items2 n n2 d1 d2 s1 s2 e r)
    ⟨ho, ho2, he, hr, ⟨(fun x => nomatch x), h⟩⟩ hu

theorem tup_le_at (l b : Addr) (items items2 : Array Value) (n n2 : Nat) (dd dd2 : Option Addr) (sl sl2 : Array (Option Value)) (e r : Nat → Bool) :
    Meets (Builtin.«tuple.__le__» ⟨[.ref l, .ref b], []⟩)
      (fun A R s => s.heap.get? l = some { cls := .type "tuple", dict := dd, data := .seq items n, slots := sl } ∧ s.heap.get? b = some { cls := .type "tuple", dict := dd2, data := .seq items2 n2, slots := sl2 } ∧
        (∀ j (h1 : j < items.size) (h2 : j < items2.size), UpTo e j → EqAt A.in1 s items[j] items2[j] (e j)) ∧
        (∀ j (h1 : j < items.size) (h2 : j < items2.size), UpTo e j → e j = false → Ob.RcOp .LtE A.in1 s items[j] items2[j] (r j)) ∧
        R (.ok (.ret (.bool (lexAt e r (decide (items.size ≤ items2.size)) 0 (min items.size items2.size))))) s) :=
  .of_wp fun prog w A R s h => by
    obtain ⟨hp, g, d, tk, os⟩ := s
    obtain ⟨hl, hb, he, hr, h⟩ := h
    have f2 := AutoSeq1.sub_tuple_tuple
    wp_walk using wpAny_loadPart' hl, wpAny_loadPart' hb, wpAny_forIn_list _ (fun rest c s' => c.1 = none ∧ s' = ⟨hp, g, d, tk, os⟩ ∧ ∃ i, UpTo e i ∧ rest = (items.toList.zip items2.toList).drop i ∧
      R (.ok (.ret (.bool (lexAt e r (decide (items.size ≤ items2.size)) i (min items.size items2.size - i))))) ⟨hp, g, d, tk, os⟩) _
    case turn =>
      rintro ⟨y, x⟩ rest c s' ⟨hc, rfl, i, hu, hz, hR⟩
      obtain ⟨h1, h2, hp, ht⟩ := zip_at hz
      obtain ⟨rfl, rfl⟩ := Prod.mk.inj hp
      simp only [Array.length_toList] at h1 h2
      simp only [Array.getElem_toList]
      rw [lexAt_step (show i < min items.size items2.size by omega)] at hR
      refine wpAny_bind (he i h1 h2 hu prog w _ _ ?_)
      cases hei : e i with
      | true =>
        rw [hei, if_pos rfl] at hR
        wp_walk
        exact ⟨rfl, rfl, i + 1, fun j hj => (Nat.lt_or_eq_of_le (Nat.le_of_lt_succ hj)).elim (hu j) fun z => z ▸ hei, ht, hR⟩
      | false =>
        rw [hei, if_neg Bool.false_ne_true] at hR
        have go := hr i h1 h2 hu hei prog w
        wp_walk using go
        exact ⟨_, rfl, by simpa using hR⟩
    case fin =>
      rintro ⟨b1, b2⟩ s' ⟨hc, rfl, i, _, hz, hR⟩
      simp only at hc
      subst hc
      have q := zip_end hz
      simp only [Array.length_toList] at q
      rw [q] at hR
      wp_walk
      exact ⟨_, rfl, by simpa [Builtin.Tuple.tupleCompareSizes, lexAt] using hR⟩
    case h => exact ⟨rfl, rfl, 0, fun j hj => absurd hj (Nat.not_lt_zero _), rfl, by simpa using h⟩
theorem rc_tup_le {A : Around} {s : Shared} {l b : Addr} {items items2 : Array Value} {e r : Nat → Bool} (hl : s.heap.IsTuple l items) (hb : s.heap.IsTuple b items2) (hu : A.units < cLine)
    (he : ∀ j (h1 : j < items.size) (h2 : j < items2.size), UpTo e j → EqAt A.in1 s items[j] items2[j] (e j))
    (hr : ∀ j (h1 : j < items.size) (h2 : j < items2.size), UpTo e j → e j = false → Ob.RcOp .LtE A.in1 s items[j] items2[j] (r j)) :
    Ob.RcOp .LtE A s (.ref l) (.ref b) (lexAt e r (decide (items.size ≤ items2.size)) 0 (min items.size items2.size)) := fun prog w E Q h => by
  obtain ⟨⟨c1, d1, t1, s1⟩, ho, hc, n, hd⟩ := id hl
  obtain ⟨⟨c2, d2, t2, s2⟩, ho2, hc2, n2, hd2⟩ := id hb
  simp only at hc hd hc2 hd2
  subst hc hd hc2 hd2
  exact richCompare_meets_room (op := .LtE) ⟨_, ho, rfl⟩ ⟨_, ho2, rfl⟩ F.slot_tuple_le F.entry_tuple_le (F.args_tuple_le_2 _ _) (tup_le_at l b items items2 n n2 d1 d2 s1 s2 e r)
    ⟨ho, ho2, he, hr, ⟨(fun x => nomatch x), h⟩⟩ hu

theorem tup_ge_at (l b : Addr) (items items2 : Array Value) (n n2 : Nat) (dd dd2 : Option Addr) (sl sl2 : Array (Option Value)) (e r : Nat → Bool) :
    Meets (Builtin.«tuple.__ge__» ⟨[.ref l, .ref b], []⟩)
      (fun A R s => s.heap.get? l = some { cls := .type "tuple", dict := dd, data := .seq items n, slots := sl } ∧ s.heap.get? b = some { cls := .type "tuple", dict := dd2, data := .seq items2 n2, slots := sl2 } ∧
        (∀ j (h1 : j < items.size) (h2 : j < items2.size), UpTo e j → EqAt A.in1 s items[j] items2[j] (e j)) ∧
        (∀ j (h1 : j < items.size) (h2 : j < items2.size), UpTo e j → e j = false → Ob.RcOp .GtE A.in1 s items[j] items2[j] (r j)) ∧
        R (.ok (.ret (.bool (lexAt e r (decide (items.size ≥ items2.size)) 0 (min items.size items2.size))))) s) :=
  .of_wp fun prog w A R s h => by
    obtain ⟨hp, g, d, tk, os⟩ := s
    obtain ⟨hl, hb, he, hr, h⟩ := h
    have f2 := AutoSeq1.sub_tuple_tuple
    wp_walk using wpAny_loadPart' hl, wpAny_loadPart' hb, wpAny_forIn_list _ (fun rest c s' => c.1 = none ∧ s' = ⟨hp, g, d, tk, os⟩ ∧ ∃ i, UpTo e i ∧ rest = (items.toList.zip items2.toList).drop i ∧
      R (.ok (.ret (.bool (lexAt e r (decide (items.size ≥ items2.size)) i (min items.size items2.size - i))))) ⟨hp, g, d, tk, os⟩) _
    case turn =>
      rintro ⟨y, x⟩ rest c s' ⟨hc, rfl, i, hu, hz, hR⟩
      obtain ⟨h1, h2, hp, ht⟩ := zip_at hz
      obtain ⟨rfl, rfl⟩ := Prod.mk.inj hp
      simp only [Array.length_toList] at h1 h2
      simp only [Array.getElem_toList]
      rw [lexAt_step (show i < min items.size items2.size by omega)] at hR
      refine wpAny_bind (he i h1 h2 hu prog w _ _ ?_)
      cases hei : e i with
      | true =>
        rw [hei, if_pos rfl] at hR
        wp_walk
        exact ⟨rfl, rfl, i + 1, fun j hj => (Nat.lt_or_eq_of_le (Nat.le_of_lt_succ hj)).elim (hu j) fun z => z ▸ hei, ht, hR⟩
      | false =>
        rw [hei, if_neg Bool.false_ne_true] at hR
        have go := hr i h1 h2 hu hei prog w
        wp_walk using go
        exact ⟨_, rfl, by simpa using hR⟩
    case fin =>
      rintro ⟨b1, b2⟩ s' ⟨hc, rfl, i, _, hz, hR⟩
      simp only at hc
      subst hc
      have q := zip_end hz
      simp only [Array.length_toList] at q
      rw [q] at hR
      wp_walk
      exact ⟨_, rfl, by simpa [Builtin.Tuple.tupleCompareSizes, lexAt] using hR⟩
    case h => exact ⟨rfl, rfl, 0, fun j hj => absurd hj (Nat.not_lt_zero _), rfl, by simpa using h⟩
theorem rc_tup_ge {A : Around} {s : Shared} {l b : Addr} {items items2 : Array Value} {e r : Nat → Bool} (hl : s.heap.IsTuple l items) (hb : s.heap.IsTuple b items2) (hu : A.units < cLine)
    (he : ∀ j (h1 : j < items.size) (h2 : j < items2.size), UpTo e j → EqAt A.in1 s items[j] items2[j] (e j))
    (hr : ∀ j (h1 : j < items.size) (h2 : j < items2.size), UpTo e j → e j = false → Ob.RcOp .GtE A.in1 s items[j] items2[j] (r j)) :
    Ob.RcOp .GtE A s (.ref l) (.ref b) (lexAt e r (decide (items.size ≥ items2.size)) 0 (min items.size items2.size)) := fun prog w E Q h => by
  obtain ⟨⟨c1, d1, t1, s1⟩, ho, hc, n, hd⟩ := id hl
  obtain ⟨⟨c2, d2, t2, s2⟩, ho2, hc2, n2, hd2⟩ := id hb
  simp only at hc hd hc2 hd2
  subst hc hd hc2 hd2
  exact richCompare_meets_room (op := .GtE) ⟨_, ho, rfl⟩ ⟨_, ho2, rfl⟩ F.slot_tuple_ge F.entry_tuple_ge (F.args_tuple_ge_2 _ _) (tup_ge_at l b items items2 n n2 d1 d2 s1 s2 e r)
    ⟨ho, ho2, he, hr, ⟨(fun x => nomatch x), h⟩⟩ hu

/-! ### the order of data -/
def opO (op : CmpOp) (l g : Bool) : Bool := match op with
  | .Lt => l
  | .LtE => !g
  | .Gt => g
  | .GtE => !l
  | _ => false
mutual
/-- op of two data, where it is told -/
def ordP (op : CmpOp) : PyData → PyData → Option Bool
  | .int i, .int j => some (opO op (decide (i < j)) (decide (j < i)))
  | .str x, .str y => some (opO op (decide (x.cps.toList < y.cps.toList)) (decide (y.cps.toList < x.cps.toList)))
  | .tuple xs, .tuple ys => ordPs op xs ys
  | _, _ => none
def ordPs (op : CmpOp) : List PyData → List PyData → Option Bool
  | [], [] => some (opO op false false)
  | [], _ :: _ => some (opO op true false)
  | _ :: _, [] => some (opO op false true)
  | x :: xs, y :: ys => if PyData.eqv x y = true then ordPs op xs ys else ordP op x y
end
def okOp (op : CmpOp) : Bool := match op with
  | .Lt => true
  | .LtE => true
  | .GtE => true
  | _ => false
theorem pairEq_cons (x y : PyData) (xs ys : List PyData) (j : Nat) : pairEq (x :: xs) (y :: ys) (j + 1) = pairEq xs ys j := by simp [pairEq]
theorem lexAt_shift (e r : Nat → Bool) (z : Bool) : ∀ k i, lexAt e r z (i + 1) k = lexAt (fun j => e (j + 1)) (fun j => r (j + 1)) z i k
  | 0, _ => rfl
  | k + 1, i => by
    show (if e (i + 1) = true then lexAt e r z (i + 1 + 1) k else r (i + 1)) = _
    rw [lexAt_shift e r z k (i + 1)]
    rfl
theorem lexAt_congr {e e' r r' : Nat → Bool} {z : Bool} (he : ∀ j, e j = e' j) (hr : ∀ j, r j = r' j) : ∀ k i, lexAt e r z i k = lexAt e' r' z i k
  | 0, _ => rfl
  | k + 1, i => by
    show (if e i = true then lexAt e r z (i + 1) k else r i) = (if e' i = true then lexAt e' r' z (i + 1) k else r' i)
    rw [he, hr, lexAt_congr he hr k (i + 1)]
/-- the place's answer -/
def ordAt (op : CmpOp) (xs ys : List PyData) (j : Nat) : Bool := (ordP op (xs.getD j .none) (ys.getD j .none)).getD false
theorem ordPs_lex {op : CmpOp} : ∀ {xs ys : List PyData} {k : Bool}, ordPs op xs ys = some k →
    lexAt (pairEq xs ys) (ordAt op xs ys) (opO op (decide (xs.length < ys.length)) (decide (ys.length < xs.length))) 0 (min xs.length ys.length) = k
  | [], [], k, h => by simp [ordPs] at h; subst h; simp [lexAt]
  | [], _ :: _, k, h => by simp [ordPs] at h; subst h; simp [lexAt]
  | _ :: _, [], k, h => by simp [ordPs] at h; subst h; simp [lexAt]
  | x :: xs, y :: ys, k, h => by
    have e0 : pairEq (x :: xs) (y :: ys) 0 = PyData.eqv x y := by simp [pairEq]
    have em : min (x :: xs).length (y :: ys).length = min xs.length ys.length + 1 := by simp only [List.length_cons]; omega
    rw [em]
    show (if pairEq (x :: xs) (y :: ys) 0 = true then _ else _) = k
    rw [e0]
    simp only [ordPs] at h
    split at h
    · rename_i q
      rw [if_pos q, lexAt_shift]
      have ih := ordPs_lex h
      rw [← ih]
      have ez : ∀ a b : Nat, decide (a + 1 < b + 1) = decide (a < b) := fun a b => by simp
      simp only [List.length_cons, ez]
      exact lexAt_congr (fun j => pairEq_cons x y xs ys j) (fun j => by simp [ordAt]) _ _
    · rename_i q
      rw [if_neg q]
      simp [ordAt, h]
theorem ordPs_at {op : CmpOp} : ∀ {xs ys : List PyData} {k : Bool}, ordPs op xs ys = some k → ∀ j, j < xs.length → j < ys.length → UpTo (pairEq xs ys) j → pairEq xs ys j = false → ordP op (xs.getD j .none) (ys.getD j .none) = some (ordAt op xs ys j)
  | [], _, _, _, j, h1, _, _, _ => absurd h1 (Nat.not_lt_zero _)
  | _ :: _, [], _, _, j, _, h2, _, _ => absurd h2 (Nat.not_lt_zero _)
  | x :: xs, y :: ys, k, h, j, h1, h2, hu, hj => by
    have e0 : pairEq (x :: xs) (y :: ys) 0 = PyData.eqv x y := by simp [pairEq]
    simp only [ordPs] at h
    cases j with
    | zero =>
      rw [e0] at hj
      rw [if_neg (by rw [hj]; exact Bool.false_ne_true)] at h
      simp [ordAt, h]
    | succ j =>
      have z := hu 0 (Nat.succ_pos _)
      rw [e0] at z
      rw [if_pos z] at h
      have := ordPs_at h j (Nat.lt_of_succ_lt_succ h1) (Nat.lt_of_succ_lt_succ h2) (fun i hi => by rw [← pairEq_cons x y]; exact hu (i + 1) (Nat.succ_lt_succ hi)) (by rw [← pairEq_cons x y]; exact hj)
      simpa [ordAt] using this
theorem readsAll_get {h : Heap} : ∀ {vs : List Value} {ds : List PyData} {as : List Addr}, ReadsAll h vs ds as → ∀ j (h1 : j < vs.length) (h2 : j < ds.length), ∃ bs, Reads h vs[j] (ds.getD j .none) bs
  | _, _, _, .nil, _, h1, _ => absurd h1 (Nat.not_lt_zero _)
  | _, _, _, .cons r _, 0, _, _ => ⟨_, r⟩
  | _, _, _, .cons _ t, j + 1, h1, h2 => by
    have := readsAll_get t j (Nat.lt_of_succ_lt_succ h1) (Nat.lt_of_succ_lt_succ h2)
    simpa using this
theorem canLay_get : ∀ {ds : List PyData} {j : Nat}, PyData.canLayAll0 ds = true → j < ds.length → (ds.getD j .none).canLay0 = true
  | [], _, _, h => absurd h (Nat.not_lt_zero _)
  | d :: ds, 0, h, _ => by simp [PyData.canLayAll0] at h; simpa using h.1
  | d :: ds, j + 1, h, hj => by
    simp [PyData.canLayAll0] at h
    simpa using canLay_get (j := j) h.2 (Nat.lt_of_succ_lt_succ hj)
theorem depth_get : ∀ {ds : List PyData} {j : Nat}, (ds.getD j .none).depth ≤ PyData.depthAll ds
  | [], _ => by simp [PyData.depth]
  | d :: ds, 0 => by simp [PyData.depthAll]; omega
  | d :: ds, j + 1 => by
    have := depth_get (ds := ds) (j := j)
    simp [PyData.depthAll]
    simp at this
    omega
theorem rc_ord {op : CmpOp} (hop : okOp op = true) : ∀ (n : Nat) (d e : PyData) (A : Around) (s : Shared) (a b : Value) (as bs : List Addr) (k : Bool), d.depth ≤ n → Reads s.heap a d as → Reads s.heap b e bs → d.canLay0 = true → e.canLay0 = true → ordP op d e = some k → A.units + d.depth < cLine → Ob.RcOp op A s a b k := by
  intro n
  induction n with
  | zero =>
    intro d e A s a b as bs k hn ra rb ca cb h hu
    cases d <;> cases e <;> simp only [ordP, Option.some.injEq, reduceCtorEq] at h
    case int.int i j =>
      subst h
      cases ra; cases rb
      cases op <;> first | (exact absurd hop (by decide)) | skip
      · exact fun _ _ _ _ q => PyProof.Rows.lt_int q
      · exact fun _ _ _ _ q => PyProof.Rows.le_int (by simpa [opO, ← Int.not_lt] using q)
      · exact fun _ _ _ _ q => PyProof.Rows.ge_int (by simpa [opO, ← Int.not_lt] using q)
    case str.str x y =>
      subst h
      cases ra; cases rb
      cases op <;> first | (exact absurd hop (by decide)) | skip
      · exact fun _ _ _ _ q => PyProof.Rows.lt_str q
      · exact fun _ _ _ _ q => PySem.P.le_str q
      · exact fun _ _ _ _ q => PySem.P.ge_str q
    case tuple.tuple xs ys => simp [PyData.depth] at hn
  | succ n ih =>
    intro d e A s a b as bs k hn ra rb ca cb h hu
    by_cases hz : d.depth ≤ n
    · exact ih d e A s a b as bs k hz ra rb ca cb h hu
    cases d <;> cases e <;> simp only [ordP, Option.some.injEq, reduceCtorEq] at h
    case int.int i j => simp [PyData.depth] at hz
    case str.str x y => simp [PyData.depth] at hz
    case tuple.tuple xs ys =>
      have hd : PyData.depth (.tuple xs) = PyData.depthAll xs + 1 := by simp [PyData.depth]
      rw [hd] at hn hu
      cases ra with
      | @tuple l o vs n1 _ as₁ h1 h2 h3 h4 =>
        cases rb with
        | @tuple l' o' vs' n1' _ bs₁ k1 k2 k3 k4 =>
          have n1 : vs.size = xs.length := by simpa using ReadsAll.length _ _ _ h4
          have n2 : vs'.size = ys.length := by simpa using ReadsAll.length _ _ _ k4
          have ca' : PyData.canLayAll0 xs = true := by simpa [PyData.canLay0] using ca
          have cb' : PyData.canLayAll0 ys = true := by simpa [PyData.canLay0] using cb
          have un : A.in1.units = A.units + 1 := rfl
          have heq : ∀ j (q1 : j < vs.size) (q2 : j < vs'.size), UpTo (pairEq xs ys) j → EqAt A.in1 s vs[j] vs'[j] (pairEq xs ys j) := fun j q1 q2 _ => by
            have z := eqAt_readsAll xs ys A.in1 s vs.toList vs'.toList _ _ h4 k4 ca' cb' (by rw [un]; omega) j (by simpa using q1) (by simpa using q2)
            simpa using z
          have hrc : ∀ j (q1 : j < vs.size) (q2 : j < vs'.size), UpTo (pairEq xs ys) j → pairEq xs ys j = false → Ob.RcOp op A.in1 s vs[j] vs'[j] (ordAt op xs ys j) := fun j q1 q2 hup hj => by
            obtain ⟨r1, e1⟩ := readsAll_get h4 j (by simpa using q1) (by rw [← n1]; exact q1)
            obtain ⟨r2, e2⟩ := readsAll_get k4 j (by simpa using q2) (by rw [← n2]; exact q2)
            have dl := depth_get (ds := xs) (j := j)
            have z := ih _ _ A.in1 s _ _ _ _ _ (by omega) e1 e2 (canLay_get ca' (by rw [← n1]; exact q1)) (canLay_get cb' (by rw [← n2]; exact q2)) (ordPs_at h j (by rw [← n1]; exact q1) (by rw [← n2]; exact q2) hup hj) (by rw [un]; omega)
            simpa using z
          have fin := ordPs_lex h
          rw [← n1, ← n2] at fin
          rw [← fin]
          cases op <;> first | (exact absurd hop (by decide)) | skip
          · exact rc_tup_lt ⟨_, h1, h2, _, h3⟩ ⟨_, k1, k2, _, k3⟩ (by omega) heq hrc
          · have q := rc_tup_le ⟨_, h1, h2, _, h3⟩ ⟨_, k1, k2, _, k3⟩ (by omega) heq hrc
            have e : decide (vs.size ≤ vs'.size) = opO .LtE (decide (vs.size < vs'.size)) (decide (vs'.size < vs.size)) := by simp [opO, ← Nat.not_lt]
            rw [e] at q
            exact q
          · have q := rc_tup_ge ⟨_, h1, h2, _, h3⟩ ⟨_, k1, k2, _, k3⟩ (by omega) heq hrc
            have e : decide (vs.size ≥ vs'.size) = opO .GtE (decide (vs.size < vs'.size)) (decide (vs'.size < vs.size)) := by simp [opO, ← Nat.not_lt]
            rw [e] at q
            exact q
end DL

namespace DL
open PySem PySem.Spec PyProof.Rows L2

/-! ### <, <=, >= ; > of ints and texts -/
def dOrd (op : CmpOp) (x y : D) (S : Sto) : R D := match toPy S 12 x, toPy S 12 y with
  | some d, some e => if SeqAt.shaped d = true ∧ SeqAt.shaped e = true then ofB (ordP op d e) S else .bad
  | _, _ => .bad
def dGt (x y : D) (S : Sto) : R D := match x, y with
  | .int i, .int j => .ok (.bl (decide (j < i))) S
  | .str a, .str b => .ok (.bl (decide (b.cps.toList < a.cps.toList))) S
  | _, _ => .bad
section
variable {X : Cx} {W : WX} {k : Nat} {N : List Str} {vis loc : List Nat} {gls : List Str}
theorem richOp {op : CmpOp} (h : okOp op = true) (u v : Value) : compareOp op u v = richCompare op u v := by
  cases op <;> first | rfl | (exact absurd h (by decide))
theorem cd_ord (c : Ctx X W k N vis loc gls) {op : CmpOp} (h : okOp op = true := by rfl) : OpD X W (compareOp op) (dOrd op) := by
  intro pins s σ H ι S x y x' y' u v Q I rp dx dy rx ry q
  unfold dOrd at q
  split at q
  · rename_i d e h1 h2
    split at q
    · rename_i hz
      obtain ⟨b, e1, q⟩ := ofB_end rp q
      obtain ⟨as, r1⟩ := Dp.reads I d x' u (toPy_ok rp _ _ _ _ dx h1) rx
      obtain ⟨bs, r2⟩ := Dp.reads I e y' v (toPy_ok rp _ _ _ _ dy h2) ry
      rw [richOp h]
      have dd := SeqAt.depth_of_shaped hz.1
      have un := c.hr.units
      exact rc_ord h _ d e X.A s u v as bs b (Nat.le_refl _) r1 r2 (SeqAt.canLay_of_shaped hz.1) (SeqAt.canLay_of_shaped hz.2) e1 (by omega) X.prog X.w X.xe _ ⟨.bl b, H, I, rfl, q⟩
    · exact q.elim
  · exact q.elim
theorem cd_gt : OpD X W (compareOp .Gt) dGt := by
  refine opD_of (op_gt.or op_gt_str) fun σ H ι S x y x' y' Q rp dx dy q => ?_
  cases dx <;> cases dy <;> try exact q.elim
  case int.int i j => exact .inl ⟨i, j, rfl, rfl, q ι H _ (Ext.refl _ _) rp (.bl _)⟩
  case str.str a b => exact .inr ⟨a, b, rfl, rfl, q ι H _ (Ext.refl _ _) rp (.bl _)⟩

/-! ### is None, is True -/
def isN : D → Option Bool
  | .non => some true
  | .con _ => none
  | _ => some false
def dIsN (x y : D) (S : Sto) : R D := match y with
  | .non => ofB (isN x) S
  | .bl b => (match x with | .bl a => .ok (.bl (decide (a = b))) S | _ => .bad)
  | _ => .bad
def dNotN (x y : D) (S : Sto) : R D := match y with
  | .non => ofB ((isN x).map not) S
  | .bl b => (match x with | .bl a => .ok (.bl (!decide (a = b))) S | _ => .bad)
  | _ => .bad
theorem isN_ok {K : PySem.W.Frag} {H : Hp} {ι : List Addr} {x : D} {x' : V} (d : DV K H ι x x') {b : Bool} (h : isN x = some b) : decide (x' = V.non) = b := by
  cases d <;> simp [isN] at h <;> subst h <;> simp
theorem cd_is : OpD X W (compareOp .Is) dIsN := by
  refine opD_of (op_isN.or op_isBl) fun σ H ι S x y x' y' Q rp dx dy q => ?_
  cases dy <;> try exact q.elim
  case non =>
    obtain ⟨b, e, q⟩ := ofB_end rp q
    exact .inl ⟨rfl, by rw [isN_ok dx e]; exact q⟩
  case bl b =>
    cases dx <;> try exact q.elim
    case bl a => exact .inr ⟨a, b, rfl, rfl, q ι H _ (Ext.refl _ _) rp (.bl _)⟩
theorem cd_isnot : OpD X W (compareOp .IsNot) dNotN := by
  refine opD_of (op_notN.or op_notBl) fun σ H ι S x y x' y' Q rp dx dy q => ?_
  cases dy <;> try exact q.elim
  case non =>
    obtain ⟨b, e, q⟩ := ofB_end rp q
    cases z : isN x with
    | none => rw [z] at e; cases e
    | some b' =>
      rw [z] at e
      cases e
      exact .inl ⟨rfl, by rw [isN_ok dx z]; exact q⟩
  case bl b =>
    cases dx <;> try exact q.elim
    case bl a => exact .inr ⟨a, b, rfl, rfl, q ι H _ (Ext.refl _ _) rp (.bl _)⟩
end

/-! ### truth, tests, and, or, not -/
def dTruth (d : D) (S : Sto) : Option Bool := match d with
  | .non => some false
  | .bl b => some b
  | .int i => some (i != 0)
  | .str x => if x.length ≤ sizeLine then some ((x.length : Int) != 0) else none
  | .tup xs => some (!xs.isEmpty)
  | .scr ns => some (!ns.isEmpty)
  | .con _ => none
  | .ref n => (match S[n]? with
    | some (.lst xs) => some (!xs.isEmpty)
    | some (.dK xs) => some (!xs.isEmpty)
    | _ => none)
theorem DVs.isEmpty {K : PySem.W.Frag} {H : Hp} {ι : List Addr} {ds : List D} {vs : List V} (h : DVs K H ι ds vs) : ds.isEmpty = vs.isEmpty := by cases h <;> rfl
theorem DP.isEmpty {κ : Type} {K : PySem.W.Frag} {H : Hp} {ι : List Addr} {ds : List (κ × D)} {vs : List (κ × V)} (h : DP K H ι ds vs) : ds.isEmpty = vs.isEmpty := by cases h <;> rfl
theorem dTruth_ok {K : PySem.W.Frag} {H : Hp} {ι : List Addr} {S : Sto} (r : Rep K H ι S) {d : D} {v : V} {k : Bool} (dv : DV K H ι d v) (h : dTruth d S = some k) : TruV K v H k := by
  cases dv with
  | non => simp [dTruth] at h; exact h
  | bl b => simp [dTruth] at h; exact h.symm
  | int i => simp only [dTruth, Option.some.injEq] at h; exact h.symm
  | str x =>
    simp only [dTruth] at h
    split at h
    · rename_i hz
      cases h
      exact ⟨hz, rfl⟩
    · cases h
  | tup h1 d1 =>
    simp only [dTruth, Option.some.injEq] at h
    exact .inr (.inl ⟨_, SqT.of h1, by rw [← h, d1.isEmpty]⟩)
  | ref ha =>
    simp only [dTruth] at h
    split at h
    · rename_i xs hs
      obtain ⟨vs, e1, d1⟩ := r.lst hs ha
      cases h
      exact .inl ⟨_, SqL.of e1, by rw [d1.isEmpty]⟩
    · rename_i xs hs
      obtain ⟨vs, e1, d1⟩ := r.dK hs ha
      cases h
      exact .inr (.inr ⟨_, e1, by rw [d1.isEmpty]⟩)
    · cases h
  | con v => cases h
  | scr hs =>
    simp only [dTruth, Option.some.injEq] at h
    refine .inl ⟨_, hs.seq, ?_⟩
    rw [← h, List.isEmpty_map]
def R.ofO {α : Type} (o : Option α) (S : Sto) : R α := match o with
  | some a => .ok a S
  | none => .bad
def eTru (fa : Env → Sto → R D) : Env → Sto → R Bool := fun env S => (fa env S).bind fun x S1 => R.ofO (dTruth x S1) S1
def eTst (fa : Env → Sto → R D) : Env → Sto → R Bool := fun env S => (fa env S).bind fun x S1 => match x with
  | .bl b => .ok b S1
  | _ => .bad
def bAnd (fa fb : Env → Sto → R Bool) : Env → Sto → R Bool := fun env S => (fa env S).bind fun b S1 => match b with
  | true => fb env S1
  | false => .ok false S1
def bOr (fa fb : Env → Sto → R Bool) : Env → Sto → R Bool := fun env S => (fa env S).bind fun b S1 => match b with
  | true => .ok true S1
  | false => fb env S1
def bNot (fa : Env → Sto → R Bool) : Env → Sto → R Bool := fun env S => (fa env S).bind fun b S1 => .ok (!b) S1
def eAnd (fa fb : Env → Sto → R D) : Env → Sto → R D := fun env S => (fa env S).bind fun x S1 => (R.ofO (dTruth x S1) S1).bind fun b S2 => match b with
  | true => fb env S2
  | false => .ok x S2
def eOr (fa fb : Env → Sto → R D) : Env → Sto → R D := fun env S => (fa env S).bind fun x S1 => (R.ofO (dTruth x S1) S1).bind fun b S2 => match b with
  | true => .ok x S2
  | false => fb env S2
def eNot (fa : Env → Sto → R D) : Env → Sto → R D := fun env S => (fa env S).bind fun x S1 => (R.ofO (dTruth x S1) S1).bind fun b S2 => .ok (.bl (!b)) S2
def eIf (fc : Env → Sto → R Bool) (fa fb : Env → Sto → R D) : Env → Sto → R D := fun env S => (fc env S).bind fun b S1 => match b with
  | true => fa env S1
  | false => fb env S1
section
variable {X : Cx} {W : WX} {k : Nat} {N : List Str} {vis loc : List Nat} {gls : List Str} {a b c : Expr} {rest : List Expr} {fa fb : Env → Sto → R D} {ga gb gc : Env → Sto → R Bool} {pos : Pos}
theorem ofO_end {α β : Type} {K : PySem.W.Frag} {H : Hp} {ι : List Addr} {S : Sto} {σ : St} {rel : Rl α β} {Q : β → Hp → Prop} {γ : Type} {o : Option γ} {k : γ → Sto → R α} (h : ends K W σ rel H ι Q ((R.ofO o S).bind k)) : ∃ b, o = some b ∧ ends K W σ rel H ι Q (k b S) := by
  cases o with
  | none => exact h.elim
  | some b => exact ⟨b, rfl, h⟩
theorem dt_truth (ha : PE X a (tD X.K fa W)) (he : ∀ whole, isTrue a X.env whole = (do let v ← whole; standAt a.pos; holding [v] (truthy v)) := by intro _; rfl) : PT X a (tBo X.K (eTru fa) W) := by
  refine PT.imp (pt_truth ha he) fun σ H Q ⟨ι, env, S, r, en, h⟩ => ⟨ι, env, S, r, en, (ends.bind h).imp fun v H1 ⟨ι1, x, S1, _, e1, r1, d1, h1⟩ => ?_⟩
  cases z : dTruth x S1 with
  | none => rw [z] at h1; exact h1.elim
  | some k =>
    rw [z] at h1
    exact ⟨k, dTruth_ok r1 d1 z, h1 ι1 H1 k (Ext.refl _ _) r1 rfl⟩
theorem dt_cmp {op : CmpOp} {g : D → D → Sto → R D} (ho : OpD X W (compareOp op) g) (ha : PE X a (tD X.K fa W)) (hb : PE X b (tD X.K fb W)) (hm : behindInMarks op b = false := by first | exact nomark _ | rfl) : PT X (.Compare a [op] [b] pos) (tBo X.K (eTst (eBin g fa fb)) W) := by
  refine ⟨fun pins s σ H Q I ⟨ι, env, S, r, en, h⟩ => ?_⟩
  refine wpAny_isTrue_Compare1 (two_go (f := compareOp op) (P := fun u s1 => wpAny (model X.prog X.w) X.A (truthy u) (TP X pins σ Q) X.xe s1) (rel := DV X.K) (Q := fun v H1 => ∃ k, v = .bl k ∧ Q k H1) (g := g) ha hb I r en ?_ fun u v s2 x y x' y' H2 ι2 S2 I2 r2 _ d1 d2 rx ry h2 => ?_) hm
  · refine (ends.bind (rel := DV X.K) (r := eBin g fa fb env S) h).imp fun v H1 ⟨ι1, x, S1, _, e1, r1, d1, h1⟩ => ?_
    cases d1 with
    | bl k => exact ⟨k, rfl, h1 ι1 H1 k (Ext.refl _ _) r1 rfl⟩
    | _ => exact h1.elim
  · refine thn (ho pins s2 σ H2 ι2 S2 x y x' y' u v _ I2 r2 d1 d2 rx ry h2) fun w s3 ⟨z, H3, I3, rz, kk, e, q⟩ => ?_
    subst e
    cases rz
    exact wpAny_truthy_bool ⟨H3, I3, q⟩
theorem dw_one (h : PT X a (tBo X.K ga W)) {op : BoolOp} : PW X (.BoolOp op [a] pos) (tBo X.K ga W) := by
  cases op
  · exact pw_and1 h
  · exact pw_or1 h
theorem PW.impw {e : Expr} {t t' : TT} (h : PW X e t) (q : ∀ σ H Q, t' σ H Q → t σ H Q) : PW X e t' := ⟨fun wh pins s σ H Q I hw => h.run wh pins s σ H Q I (q σ H Q hw)⟩
theorem dw_and (ha : PT X a (tBo X.K ga W)) (hb : PW X (.BoolOp .And (b :: rest) pos) (tBo X.K gb W)) : PW X (.BoolOp .And (a :: b :: rest) pos) (tBo X.K (bAnd ga gb) W) := by
  refine PW.impw (pw_and ha hb) fun σ H Q ⟨ι, env, S, r, en, h⟩ => ⟨ι, env, S, r, en, (ends.bind h).imp fun v H1 ⟨ι1, x, S1, _, e1, r1, d1, h1⟩ => ?_⟩
  obtain rfl : x = v := d1
  cases x with
  | true => exact iteT ⟨ι1, env, S1, r1, en.mono e1.toGr, h1⟩
  | false => exact iteF (h1 ι1 H1 false (Ext.refl _ _) r1 rfl)
theorem dw_or (ha : PT X a (tBo X.K ga W)) (hb : PW X (.BoolOp .Or (b :: rest) pos) (tBo X.K gb W)) : PW X (.BoolOp .Or (a :: b :: rest) pos) (tBo X.K (bOr ga gb) W) := by
  refine PW.impw (pw_or ha hb) fun σ H Q ⟨ι, env, S, r, en, h⟩ => ⟨ι, env, S, r, en, (ends.bind h).imp fun v H1 ⟨ι1, x, S1, _, e1, r1, d1, h1⟩ => ?_⟩
  obtain rfl : x = v := d1
  cases x with
  | true => exact iteT (h1 ι1 H1 true (Ext.refl _ _) r1 rfl)
  | false => exact iteF ⟨ι1, env, S1, r1, en.mono e1.toGr, h1⟩
theorem dt_bool {op : BoolOp} {es : List Expr} (h : PW X (.BoolOp op es pos) (tBo X.K ga W)) : PT X (.BoolOp op es pos) (tBo X.K ga W) := h.pt
theorem dt_not (ha : PT X a (tBo X.K ga W)) : PT X (.UnaryOp .Not a pos) (tBo X.K (bNot ga) W) := by
  refine PT.imp (pt_not ha) fun σ H Q ⟨ι, env, S, r, en, h⟩ => ⟨ι, env, S, r, en, (ends.bind h).imp fun v H1 ⟨ι1, x, S1, _, e1, r1, d1, h1⟩ => ?_⟩
  obtain rfl : x = v := d1
  exact h1 ι1 H1 _ (Ext.refl _ _) r1 rfl
theorem de_one {op : BoolOp} (h : PE X a (tD X.K fa W)) : PE X (.BoolOp op [a] pos) (tD X.K fa W) := pe_one h
theorem de_and (ha : PE X a (tD X.K fa W)) (hb : PE X (.BoolOp .And (b :: rest) pos) (tD X.K fb W)) : PE X (.BoolOp .And (a :: b :: rest) pos) (tD X.K (eAnd fa fb) W) := by
  refine PE.imp (pe_andT ha hb) fun σ H Q ⟨ι, env, S, r, en, h⟩ => ⟨ι, env, S, r, en, (ends.bind h).imp fun v H1 ⟨ι1, x, S1, _, e1, r1, d1, h1⟩ => ?_⟩
  obtain ⟨kk, z, h2⟩ := ofO_end h1
  refine ⟨kk, dTruth_ok r1 d1 z, ?_⟩
  cases kk with
  | true => exact iteT ⟨ι1, env, S1, r1, en.mono e1.toGr, h2⟩
  | false => exact iteF (h2 ι1 H1 v (Ext.refl _ _) r1 d1)
theorem de_or (ha : PE X a (tD X.K fa W)) (hb : PE X (.BoolOp .Or (b :: rest) pos) (tD X.K fb W)) : PE X (.BoolOp .Or (a :: b :: rest) pos) (tD X.K (eOr fa fb) W) := by
  refine PE.imp (pe_orT ha hb) fun σ H Q ⟨ι, env, S, r, en, h⟩ => ⟨ι, env, S, r, en, (ends.bind h).imp fun v H1 ⟨ι1, x, S1, _, e1, r1, d1, h1⟩ => ?_⟩
  obtain ⟨kk, z, h2⟩ := ofO_end h1
  refine ⟨kk, dTruth_ok r1 d1 z, ?_⟩
  cases kk with
  | true => exact iteT (h2 ι1 H1 v (Ext.refl _ _) r1 d1)
  | false => exact iteF ⟨ι1, env, S1, r1, en.mono e1.toGr, h2⟩
theorem de_not (ha : PE X a (tD X.K fa W)) : PE X (.UnaryOp .Not a pos) (tD X.K (eNot fa) W) := by
  refine PE.imp (pe_notT ha) fun σ H Q ⟨ι, env, S, r, en, h⟩ => ⟨ι, env, S, r, en, (ends.bind h).imp fun v H1 ⟨ι1, x, S1, _, e1, r1, d1, h1⟩ => ?_⟩
  obtain ⟨kk, z, h2⟩ := ofO_end h1
  exact ⟨kk, dTruth_ok r1 d1 z, h2 ι1 H1 _ (Ext.refl _ _) r1 (.bl _)⟩
theorem de_if (hc : PT X c (tBo X.K gc W)) (ha : PE X a (tD X.K fa W)) (hb : PE X b (tD X.K fb W)) : PE X (.IfExp c a b pos) (tD X.K (eIf gc fa fb) W) := by
  refine PE.imp (pe_ifExp hc ha hb) fun σ H Q ⟨ι, env, S, r, en, h⟩ => ⟨ι, env, S, r, en, (ends.bind h).imp fun v H1 ⟨ι1, x, S1, _, e1, r1, d1, h1⟩ => ?_⟩
  obtain rfl : x = v := d1
  cases x with
  | true => exact iteT ⟨ι1, env, S1, r1, en.mono e1.toGr, h1⟩
  | false => exact iteF ⟨ι1, env, S1, r1, en.mono e1.toGr, h1⟩
theorem de_neg {i : Int} {j : Nat} {p2 : Pos} : PE X (.UnaryOp .USub (.Constant (.int i) j p2) pos) (tD X.K (eC (.int (-i))) W) :=
  PE.imp (pe_un un_neg pe_int) fun σ H Q ⟨ι, env, S, r, en, h⟩ => ⟨i, rfl, h ι H _ (Ext.refl _ _) r (.int _)⟩

/-! ### a op b op c -/
def eCh (g g' : D → D → Sto → R D) (fa fb fc : Env → Sto → R D) : Env → Sto → R D := fun env S => (fa env S).bind fun x S1 => (fb env S1).bind fun y S2 => (g x y S2).bind fun t S3 => match t with
  | .bl true => (fc env S3).bind fun z S4 => g' y z S4
  | .bl false => .ok (.bl false) S3
  | _ => .bad
variable {fc : Env → Sto → R D}
/-- the end of a comparison that must be a truth -/
theorem bl_end {H : Hp} {ι : List Addr} {σ : St} {α β : Type} {rel : Rl α β} {Q : β → Hp → Prop} {r : R D} {k : D → Sto → R α} (hk : ∀ d S, (∀ b, d ≠ .bl b) → k d S = .bad) (h : ends X.K W σ rel H ι Q (r.bind k)) :
    ends X.K W σ (DV X.K) H ι (fun v H1 => ∃ b ι1 S1, v = .bl b ∧ Ext H ι H1 ι1 ∧ Rep X.K H1 ι1 S1 ∧ ends X.K W σ rel H1 ι1 Q (k (.bl b) S1)) r :=
  (ends.bind (rel := DV X.K) h).imp fun v H1 ⟨ι1, x, S1, _, e1, r1, d1, h1⟩ => by
    cases d1 with
    | bl b => exact ⟨b, ι1, S1, rfl, e1, r1, h1⟩
    | _ => rw [hk _ _ (fun b q => by cases q)] at h1; exact h1.elim
theorem de_chain {op op' : CmpOp} {g g' : D → D → Sto → R D} (ho : OpD X W (compareOp op) g) (ho' : OpD X W (compareOp op') g') (ha : PE X a (tD X.K fa W)) (hb : PE X b (tD X.K fb W)) (hc : PE X c (tD X.K fc W))
    (hm : lastMarks [op, op'] [b, c] = false := by with_unfolding_all rfl) : PE X (.Compare a [op, op'] [b, c] pos) (tD X.K (eCh g g' fa fb fc) W) := by
  refine ⟨fun pins s σ H Q I ⟨ι, env, S, r, en, h⟩ => ?_⟩
  refine Compare_chain (thn (ha.run pins s σ H _ I ⟨ι, env, S, r, en, ends.bind h⟩) fun u s1 ⟨x', H1, I1, rx, ι1, x, S1, _, e1, r1, d1, h1⟩ => chain_link ?_) hm
  refine thn (hb.run pins s1 σ H1 _ I1 ⟨ι1, env, S1, r1, en.mono e1.toGr, ends.bind h1⟩) fun v s2 ⟨y', H2, I2, ry, ι2, y, S2, _, e2, r2, d2, h2⟩ => ?_
  refine thn (ho pins s2 σ H2 ι2 S2 x y x' y' u v _ I2 r2 (d1.mono e2.toGr) d2 rx ry (bl_end (fun d S hd => by cases d <;> first | rfl | exact absurd rfl (hd _)) h2)) fun w s3 ⟨z', H3, I3, rz, t, ι3, S3, ez, e3, r3, h3⟩ => ?_
  subst ez
  cases rz
  refine wpAny_truthy_bool ?_
  cases t with
  | false => exact ite_ff ⟨.bl false, H3, I3, rfl, h3 ι3 H3 _ (Ext.refl _ _) r3 (.bl false)⟩
  | true =>
    refine ite_tt (chain_last (thn (hc.run pins s3 σ H3 _ I3 ⟨ι3, env, S3, r3, ((en.mono e1.toGr).mono e2.toGr).mono e3.toGr, ends.bind h3⟩) fun w s4 ⟨z', H4, I4, rz, ι4, z, S4, _, e4, r4, d4, h4⟩ => ?_))
    exact ho' pins s4 σ H4 ι4 S4 y z y' z' v w Q I4 r4 ((d2.mono e3.toGr).mono e4.toGr) d4 ry rz h4
theorem dt_chain {op op' : CmpOp} {g g' : D → D → Sto → R D} (ho : OpD X W (compareOp op) g) (ho' : OpD X W (compareOp op') g') (ha : PE X a (tD X.K fa W)) (hb : PE X b (tD X.K fb W)) (hc : PE X c (tD X.K fc W))
    (hm : lastMarks [op, op'] [b, c] = false := by with_unfolding_all rfl) : PT X (.Compare a [op, op'] [b, c] pos) (tBo X.K (eTst (eCh g g' fa fb fc)) W) := by
  refine ⟨fun pins s σ H Q I ⟨ι, env, S, r, en, h⟩ => ?_⟩
  have h := bl_end (fun d S hd => by cases d <;> first | rfl | exact absurd rfl (hd _)) h
  refine isTrue_chain (thn (ha.run pins s σ H _ I ⟨ι, env, S, r, en, ends.bind h⟩) fun u s1 ⟨x', H1, I1, rx, ι1, x, S1, _, e1, r1, d1, h1⟩ => test_link ?_) hm
  refine thn (hb.run pins s1 σ H1 _ I1 ⟨ι1, env, S1, r1, en.mono e1.toGr, ends.bind h1⟩) fun v s2 ⟨y', H2, I2, ry, ι2, y, S2, _, e2, r2, d2, h2⟩ => ?_
  refine thn (ho pins s2 σ H2 ι2 S2 x y x' y' u v _ I2 r2 (d1.mono e2.toGr) d2 rx ry (bl_end (fun d S hd => by cases d <;> first | rfl | exact absurd rfl (hd _)) h2)) fun w s3 ⟨z', H3, I3, rz, t, ι3, S3, ez, e3, r3, h3⟩ => ?_
  subst ez
  cases rz
  refine wpAny_truthy_bool ?_
  cases t with
  | false =>
    obtain ⟨b, ι4, S4, e4, x4, r4, h4⟩ := h3 ι3 H3 _ (Ext.refl _ _) r3 (.bl false)
    cases e4
    exact ite_ff ⟨H3, I3, h4 ι4 H3 _ (Ext.refl _ _) r4 rfl⟩
  | true =>
    refine ite_tt (test_last (thn (hc.run pins s3 σ H3 _ I3 ⟨ι3, env, S3, r3, ((en.mono e1.toGr).mono e2.toGr).mono e3.toGr, ends.bind h3⟩) fun w s4 ⟨z', H4, I4, rz, ι4, z, S4, _, e4, r4, d4, h4⟩ => ?_))
    refine thn (ho' pins s4 σ H4 ι4 S4 y z y' z' v w _ I4 r4 ((d2.mono e3.toGr).mono e4.toGr) d4 ry rz h4) fun w2 s5 ⟨z2, H5, I5, r5, b, ι5, S5, e5, x5, rp5, h5⟩ => ?_
    subst e5
    cases r5
    exact wpAny_truthy_bool ⟨H5, I5, h5 ι5 H5 b (Ext.refl _ _) rp5 rfl⟩
end
end DL

namespace DL
open PySem PySem.Spec PyProof.Rows L2

/-! ### arguments, displays -/
def aNil : Env → Sto → R (List D) := fun _ S => .ok [] S
def aCons (fa : Env → Sto → R D) (fr : Env → Sto → R (List D)) : Env → Sto → R (List D) := fun env S => (fa env S).bind fun x S1 => (fr env S1).bind fun xs S2 => .ok (x :: xs) S2
def small (n : Nat) : Bool := decide (n ≤ sizeLine)
def eTup (fs : Env → Sto → R (List D)) : Env → Sto → R D := fun env S => (fs env S).bind fun xs S1 => if small xs.length then .ok (.tup xs) S1 else .bad
def lLst (fs : Env → Sto → R (List D)) : Env → Sto → R (List D) := fun env S => (fs env S).bind fun xs S1 => if small xs.length then .ok xs S1 else .bad
/-- a temporary list is laid in the store -/
def eNew (fl : Env → Sto → R (List D)) : Env → Sto → R D := fun env S => (fl env S).bind fun xs S1 => .ok (.ref S1.length) (S1 ++ [.lst xs])
/-- the items of a list -/
def getL (d : D) (S : Sto) : R (List D) := match d with
  | .ref n => (match S[n]? with
    | some (.lst xs) => .ok xs S
    | _ => .bad)
  | .scr ns => .ok (ns.map .int) S
  | _ => .bad
def sOf (fa : Env → Sto → R D) : Env → Sto → R (List D) := fun env S => (fa env S).bind getL
section
variable {X : Cx} {W : WX} {k : Nat} {N : List Str} {vis loc : List Nat} {gls : List Str} {a b e : Expr} {es : List Expr} {fa fb : Env → Sto → R D} {fs : Env → Sto → R (List D)} {pos : Pos}
theorem da_nil : PA X [] (tAr X.K aNil W) := PA.imp pa_nil fun σ H Q ⟨ι, env, S, r, en, h⟩ => h ι H _ (Ext.refl _ _) r .nil
theorem da_cons (ha : PE X a (tD X.K fa W)) (hr : PA X es (tAr X.K fs W)) (hs : starEach (a :: es) X.env = (false, eval a X.env) :: starEach es X.env := by rfl) : PA X (a :: es) (tAr X.K (aCons fa fs) W) := by
  refine PA.imp (pa_cons ha hr hs) fun σ H Q ⟨ι, env, S, r, en, h⟩ => ⟨ι, env, S, r, en, (ends.bind h).imp fun v H1 ⟨ι1, x, S1, _, e1, r1, d1, h1⟩ => ⟨ι1, env, S1, r1, en.mono e1.toGr, (ends.bind h1).imp fun vs H2 ⟨ι2, xs, S2, _, e2, r2, d2, h2⟩ => ?_⟩⟩
  exact h2 ι2 H2 _ (Ext.refl _ _) r2 (.cons (d1.mono e2.toGr) d2)
theorem de_tup {x1} (h : PA X es (tAr X.K fs W)) : PE X (.Tuple es x1 pos) (tD X.K (eTup fs) W) := by
  refine PE.imp (pe_tup h) fun σ H Q ⟨ι, env, S, r, en, h⟩ => ⟨ι, env, S, r, en, (ends.bind h).imp fun vs H1 ⟨ι1, xs, S1, _, e1, r1, d1, h1⟩ => ?_⟩
  split at h1
  · rename_i hz
    exact ⟨by rw [← d1.length]; exact of_decide_eq_true hz, fun p hp => ends.tup r1 d1 h1 hp⟩
  · exact h1.elim
theorem dl_lst (h : PA X es (tAr X.K fs W)) : PE X (.List es pos) (tTm X.K (lLst fs) W) := by
  refine PE.imp (pe_lst h) fun σ H Q ⟨ι, env, S, r, en, h⟩ => ⟨ι, env, S, r, en, (ends.bind h).imp fun vs H1 ⟨ι1, xs, S1, _, e1, r1, d1, h1⟩ => ?_⟩
  split at h1
  · rename_i hz
    have hz' : vs.length ≤ sizeLine := by rw [← d1.length]; exact of_decide_eq_true hz
    exact ⟨hz', fun p hp => h1 ι1 _ _ (Ext.junk _ hp) (r1.junk _ hp) ⟨p, vs, rfl, e1.was hp, upd_same, d1.mono (Ext.junk _ hp).toGr, r1.free hp⟩⟩
  · exact h1.elim
theorem de_new {fl : Env → Sto → R (List D)} (hl : PE X e (tTm X.K fl W)) : PE X e (tD X.K (eNew fl) W) := by
  refine PE.imp hl fun σ H Q ⟨ι, env, S, r, en, h⟩ => ⟨ι, env, S, r, en, ?_⟩
  have h' : ends X.K W σ (DV X.K) H ι Q ((fl env S).bind fun xs S1 => .ok (.ref S1.length) (S1 ++ [.lst xs])) := h
  cases q : fl env S with
  | ok xs S1 =>
    rw [q] at h'
    rintro ι' H' b e1 r1 ⟨p, vs, rfl, hf, hp, d, hn⟩
    exact h' (ι' ++ [p]) H' _ (e1.take hf) (r1.take hn hp (.lst d)) (.ref (by rw [← r1.len]; simp))
  | err x S1 => rw [q] at h'; exact h'
  | bad => rw [q] at h'; exact h'
theorem ds_tm {fl : Env → Sto → R (List D)} (hl : PE X e (tTm X.K fl W)) : PE X e (tSr X.K fl W) :=
  PE.imp hl fun σ H Q ⟨ι, env, S, r, en, h⟩ => ⟨ι, env, S, r, en, by
    cases q : fl env S with
    | ok xs S1 =>
      rw [q] at h
      rintro ι' H' b e1 r1 ⟨p, vs, rfl, hf, hp, d, hn⟩
      exact h ι' H' _ e1 r1 ⟨p, vs, rfl, SqL.of hp, d⟩
    | err x S1 => rw [q] at h; exact h
    | bad => rw [q] at h; exact h⟩
theorem ds_of (ha : PE X e (tD X.K fa W)) : PE X e (tSr X.K (sOf fa) W) :=
  PE.imp ha fun σ H Q ⟨ι, env, S, r, en, h⟩ => ⟨ι, env, S, r, en, (ends.bind h).imp fun v H1 ⟨ι1, x, S1, _, e1, r1, d1, h1⟩ => by
    cases d1 with
    | ref ha =>
      simp only [getL] at h1
      split at h1
      · rename_i xs hs
        obtain ⟨vs, q1, q2⟩ := r1.lst hs ha
        exact h1 ι1 H1 _ (Ext.refl _ _) r1 ⟨_, vs, rfl, SqL.of q1, q2⟩
      · exact h1.elim
    | scr hs => exact h1 ι1 H1 _ (Ext.refl _ _) r1 ⟨_, _, rfl, hs.seq, DVs.of_ints _⟩
    | _ => exact h1.elim⟩

/-! ### items -/
def kGet {κ : Type} [DecidableEq κ] (kvs : List (κ × D)) (k : κ) : Option D := (kvs.find? fun p => decide (p.1 = k)).map (·.2)
def kPut {κ : Type} [DecidableEq κ] (kvs : List (κ × D)) (k : κ) (d : D) : List (κ × D) :=
  if (kvs.any fun p => decide (p.1 = k)) = true then kvs.map (fun p => if p.1 = k then (p.1, d) else p) else kvs ++ [(k, d)]
def kDrop {κ : Type} [DecidableEq κ] (kvs : List (κ × D)) (k : κ) : List (κ × D) := kvs.filter fun p => decide (p.1 ≠ k)
def keyOf : D → Option Key
  | .int i => some (.inl i)
  | .str s => some (.inr s)
  | _ => none
def tkeyOf : D → Option (List Key)
  | .tup xs => xs.mapM keyOf
  | _ => none
/-- what a dict has for a key: none where it can't be told -/
def dLook (n : Nat) (y : D) (S : Sto) : Option (Option D) := match S[n]? with
  | some (.dK kvs) => (keyOf y).map (kGet kvs)
  | some (.fK kvs) => (keyOf y).map (kGet kvs)
  | some (.dT kvs) => (tkeyOf y).map (kGet kvs)
  | some (.fT kvs) => (tkeyOf y).map (kGet kvs)
  | _ => none
/-- x[y] -/
def dIx (x y : D) (S : Sto) : R D := match x with
  | .tup xs => (match y with | .int i => R.ofO (atI xs i) S | _ => .bad)
  | .scr ns => (match y with | .int i => R.ofO ((atI ns i).map .int) S | _ => .bad)
  | .str z => (match y with | .int i => if z.length ≤ sizeLine then R.ofO ((atI z.cps.toList i).map fun c => .str ⟨#[c]⟩) S else .bad | _ => .bad)
  | .ref n => (match S[n]? with
    | some (.lst xs) => (match y with | .int i => R.ofO (atI xs i) S | _ => .bad)
    | _ => (match dLook n y S with
      | some (some d) => .ok d S
      | _ => .bad))
  | _ => .bad
def OV (K : PySem.W.Frag) (H : Hp) (ι : List Addr) (o : Option D) (v : Option V) : Prop := match o with
  | some d => ∃ w, v = some w ∧ DV K H ι d w
  | none => v = none
section
variable {κ : Type} [DecidableEq κ] {K : PySem.W.Frag} {H : Hp} {ι : List Addr}
theorem DP.get : ∀ {kvs : List (κ × D)} {kws : List (κ × V)}, DP K H ι kvs kws → ∀ k, OV K H ι (kGet kvs k) (valV kws k)
  | _, _, .nil, k => rfl
  | _, _, @DP.cons _ _ _ _ j d v ds vs h t, k => by
    by_cases e : j = k
    · have e1 : kGet ((j, d) :: ds) k = some d := by simp [kGet, e]
      rw [e1]
      exact ⟨v, by simp [valV, e], h⟩
    · have e1 : kGet ((j, d) :: ds) k = kGet ds k := by simp [kGet, e]
      have e2 : valV ((j, v) :: vs) k = valV vs k := by simp [valV, e]
      rw [e1, e2]
      exact DP.get t k
theorem DP.any {k : κ} : ∀ {kvs : List (κ × D)} {kws : List (κ × V)}, DP K H ι kvs kws → (kvs.any fun p => decide (p.1 = k)) = (kws.any fun p => decide (p.1 = k))
  | _, _, .nil => rfl
  | _, _, .cons _ t => by simp only [List.any_cons, DP.any t]
theorem DP.map {k : κ} {d : D} {v : V} (r : DV K H ι d v) : ∀ {kvs : List (κ × D)} {kws : List (κ × V)}, DP K H ι kvs kws → DP K H ι (kvs.map fun p => if p.1 = k then (p.1, d) else p) (kws.map fun p => if p.1 = k then (p.1, v) else p)
  | _, _, .nil => .nil
  | _, _, @DP.cons _ _ _ _ j x y ds vs h t => by
    simp only [List.map_cons]
    by_cases e : j = k
    · rw [if_pos e, if_pos e]
      exact .cons r (DP.map r t)
    · rw [if_neg e, if_neg e]
      exact .cons h (DP.map r t)
theorem DP.snoc {k : κ} {d : D} {v : V} (r : DV K H ι d v) : ∀ {kvs : List (κ × D)} {kws : List (κ × V)}, DP K H ι kvs kws → DP K H ι (kvs ++ [(k, d)]) (kws ++ [(k, v)])
  | _, _, .nil => .cons r .nil
  | _, _, .cons h t => .cons h (DP.snoc r t)
theorem DP.put {k : κ} {d : D} {v : V} (r : DV K H ι d v) {kvs : List (κ × D)} {kws : List (κ × V)} (h : DP K H ι kvs kws) : DP K H ι (kPut kvs k d) (putK kws k v) := by
  unfold kPut putK
  rw [h.any]
  split
  · exact h.map r
  · exact h.snoc r
theorem DP.drop {k : κ} : ∀ {kvs : List (κ × D)} {kws : List (κ × V)}, DP K H ι kvs kws → DP K H ι (kDrop kvs k) (dropK kws k)
  | _, _, .nil => .nil
  | _, _, @DP.cons _ _ _ _ j x y ds vs h t => by
    unfold kDrop dropK
    by_cases e : j = k
    · simp only [List.filter_cons, e, ne_eq, not_true, decide_false, Bool.false_eq_true, if_false]
      exact DP.drop t
    · simp only [List.filter_cons, e, ne_eq, not_false_eq_true, decide_true, if_true]
      exact .cons h (DP.drop t)
theorem DP.length : ∀ {kvs : List (κ × D)} {kws : List (κ × V)}, DP K H ι kvs kws → kvs.length = kws.length
  | _, _, .nil => rfl
  | _, _, .cons _ t => congrArg (· + 1) (DP.length t)
end
theorem keyOf_ok {K : PySem.W.Frag} {H : Hp} {ι : List Addr} {y : D} {v : V} {k : Key} (d : DV K H ι y v) (h : keyOf y = some k) : v = kV k := by
  cases d <;> simp [keyOf] at h <;> subst h <;> rfl
theorem keysOf_ok {K : PySem.W.Frag} {H : Hp} {ι : List Addr} : ∀ {ds : List D} {vs : List V} {ks : List Key}, DVs K H ι ds vs → ds.mapM keyOf = some ks → vs = ks.map kV
  | _, _, ks, .nil, h => by simp at h; subst h; rfl
  | _, _, ks, .cons (d := x) (ds := xs) d1 d2, h => by
    rw [List.mapM_cons] at h
    cases q : keyOf x with
    | none => rw [q] at h; simp at h
    | some k =>
      rw [q] at h
      cases q2 : xs.mapM keyOf with
      | none => rw [q2] at h; simp at h
      | some kk =>
        rw [q2] at h
        simp at h
        subst h
        rw [List.map_cons, ← keyOf_ok d1 q, ← keysOf_ok d2 q2]
theorem tkeyOf_ok {K : PySem.W.Frag} {H : Hp} {ι : List Addr} {y : D} {v : V} {ks : List Key} (d : DV K H ι y v) (h : tkeyOf y = some ks) : ∃ b, v = .ref b ∧ H b = some (.tup (ks.map kV)) := by
  cases d with
  | tup h1 d1 => exact ⟨_, rfl, by rw [h1, keysOf_ok d1 h]⟩
  | _ => cases h
theorem dLook_ok {K : PySem.W.Frag} {H : Hp} {ι : List Addr} {S : Sto} (r : Rep K H ι S) {n : Nat} {a : Addr} {y : D} {v : V} {o : Option D} (ha : ι[n]? = some a) (dy : DV K H ι y v) (h : dLook n y S = some o) :
    ∃ o', DGet H a v o' ∧ OV K H ι o o' := by
  unfold dLook at h
  split at h
  · rename_i kvs hs
    obtain ⟨kws, e1, d1⟩ := r.dK hs ha
    cases q : keyOf y with
    | none => rw [q] at h; cases h
    | some k =>
      rw [q] at h
      cases h
      have z := keyOf_ok dy q
      exact ⟨_, .inl ⟨kws, k, .inl e1, z, rfl⟩, d1.get k⟩
  · rename_i kvs hs
    obtain ⟨o, kws, e1, d1⟩ := r.fK hs ha
    cases q : keyOf y with
    | none => rw [q] at h; cases h
    | some k =>
      rw [q] at h
      cases h
      have z := keyOf_ok dy q
      exact ⟨_, .inl ⟨kws, k, .inr ⟨o, e1⟩, z, rfl⟩, d1.get k⟩
  · rename_i kvs hs
    obtain ⟨kws, e1, d1⟩ := r.dT hs ha
    cases q : tkeyOf y with
    | none => rw [q] at h; cases h
    | some k =>
      rw [q] at h
      cases h
      obtain ⟨b, z1, z2⟩ := tkeyOf_ok dy q
      exact ⟨_, .inr ⟨kws, k, b, .inl e1, z1, z2, rfl⟩, d1.get k⟩
  · rename_i kvs hs
    obtain ⟨o, kws, e1, d1⟩ := r.fT hs ha
    cases q : tkeyOf y with
    | none => rw [q] at h; cases h
    | some k =>
      rw [q] at h
      cases h
      obtain ⟨b, z1, z2⟩ := tkeyOf_ok dy q
      exact ⟨_, .inr ⟨kws, k, b, .inr ⟨o, e1⟩, z1, z2, rfl⟩, d1.get k⟩
  · cases h
theorem DVs.atI {K : PySem.W.Frag} {H : Hp} {ι : List Addr} {xs : List D} {vs : List V} {i : Int} {d : D} (h : DVs K H ι xs vs) (e : atI xs i = some d) : ∃ v, L2.atI vs i = some v ∧ DV K H ι d v := by
  unfold L2.atI at e ⊢
  rw [← h.length]
  cases q : ixN xs.length i with
  | none => rw [q] at e; cases e
  | some j =>
    rw [q] at e
    exact h.get (show xs[j]? = some d from e)
theorem atI_map {α β : Type} (f : α → β) (xs : List α) (i : Int) : L2.atI (xs.map f) i = (L2.atI xs i).map f := by
  unfold L2.atI
  rw [List.length_map]
  cases ixN xs.length i with
  | none => rfl
  | some j => simp
theorem ix_dict {X : Cx} (hu : X.A.units + 1 < cLine) : IxR X (fun x y H Q => ∃ a v, x = .ref a ∧ DGet H a y (some v) ∧ Q v H) := by
  intro value slice pins s σ H x y v u Q I rx ry h hs
  obtain ⟨a, w, rfl, g, q⟩ := h
  cases rx
  refine tail_any (dict_typeIs I g) PySem.F.slot_dict_getitem.lookup ?_ hs
  exact d_getItem hu I g ry fun w' s3 I3 rw' => ⟨w, H, I3, rw', q⟩
section
variable {X : Cx} {W : WX} {k : Nat} {N : List Str} {vis loc : List Nat} {gls : List Str} {a b e : Expr} {fa fb : Env → Sto → R D} {fl : Env → Sto → R (List D)} {pos : Pos}
theorem ofO_ret {α β : Type} {K : PySem.W.Frag} {H : Hp} {ι : List Addr} {S : Sto} {σ : St} {rel : Rl α β} {Q : β → Hp → Prop} {o : Option α} (h : ends K W σ rel H ι Q (R.ofO o S)) : ∃ b, o = some b ∧ ends K W σ rel H ι Q (.ok b S) := by
  cases o with
  | none => exact h.elim
  | some b => exact ⟨b, rfl, h⟩
theorem dIx_ok (hu : X.A.units + 1 < cLine) {σ : St} {H : Hp} {ι : List Addr} {S : Sto} {x y : D} {x' y' : V} {Q : VK} (r : Rep X.K H ι S) (dx : DV X.K H ι x x') (dy : DV X.K H ι y y') (h : ends X.K W σ (DV X.K) H ι Q (dIx x y S)) :
    rIx X.K x' y' H Q ∨ ∃ a v, x' = .ref a ∧ DGet H a y' (some v) ∧ Q v H := by
  cases dx with
  | tup h1 d1 =>
    simp only [dIx] at h
    cases dy with
    | int i =>
      obtain ⟨d, e, h⟩ := ofO_ret h
      obtain ⟨v, e2, dv⟩ := d1.atI e
      exact .inl (.inr (.inl ⟨_, _, i, v, rfl, rfl, SqT.of h1, e2, h ι H v (Ext.refl _ _) r dv⟩))
    | _ => exact h.elim
  | scr hs =>
    simp only [dIx] at h
    cases dy with
    | int i =>
      obtain ⟨d, e, h⟩ := ofO_ret h
      rename_i ns _
      cases q : atI ns i with
      | none => rw [q] at e; cases e
      | some m =>
        rw [q] at e
        cases e
        exact .inl (.inl ⟨_, _, i, .int m, rfl, rfl, hs.seq, by rw [atI_map, q]; rfl, h ι H _ (Ext.refl _ _) r (.int m)⟩)
    | _ => exact h.elim
  | str z =>
    simp only [dIx] at h
    cases dy with
    | int i =>
      simp only at h
      split at h
      · rename_i hz
        obtain ⟨d, e, h⟩ := ofO_ret h
        cases q : atI z.cps.toList i with
        | none => rw [q] at e; cases e
        | some c =>
          rw [q] at e
          cases e
          exact .inl (.inr (.inr ⟨z, i, c, rfl, rfl, hz, q, h ι H _ (Ext.refl _ _) r (.str _)⟩))
      · exact h.elim
    | _ => exact h.elim
  | ref ha =>
    simp only [dIx] at h
    split at h
    · rename_i xs hs
      obtain ⟨vs, e1, d1⟩ := r.lst hs ha
      cases dy with
      | int i =>
        obtain ⟨d, e, h⟩ := ofO_ret h
        obtain ⟨v, e2, dv⟩ := d1.atI e
        exact .inl (.inl ⟨_, _, i, v, rfl, rfl, SqL.of e1, e2, h ι H v (Ext.refl _ _) r dv⟩)
      | _ => exact h.elim
    · split at h
      · rename_i d q
        obtain ⟨o', g, w, rfl, dw⟩ := dLook_ok r ha dy q
        exact .inr ⟨_, w, rfl, g, h ι H w (Ext.refl _ _) r dw⟩
      · exact h.elim
  | _ => exact h.elim
theorem de_ix (c : Ctx X W k N vis loc gls) (ha : PE X a (tD X.K fa W)) (hb : PE X b (tD X.K fb W)) (hs : PlainIx b := by intro _ _; rfl) : PE X (.Subscript a b pos) (tD X.K (eBin dIx fa fb) W) := by
  have hu : X.A.units + 1 < cLine := by have := c.hr.units; omega
  refine PE.imp (pe_ix (ix_seq.or (ix_dict hu)) ha hb hs) fun σ H Q ⟨ι, env, S, r, en, h⟩ => ⟨ι, env, S, r, en, (ends.bind h).imp fun v H1 ⟨ι1, x, S1, _, e1, r1, d1, h1⟩ => ⟨ι1, env, S1, r1, en.mono e1.toGr, (ends.bind h1).imp fun w H2 ⟨ι2, y, S2, _, e2, r2, d2, h2⟩ => ?_⟩⟩
  exact dIx_ok hu r2 (d1.mono e2.toGr) d2 h2
/-- an item of a temporary list -/
def lIx (fl : Env → Sto → R (List D)) (fb : Env → Sto → R D) : Env → Sto → R D := fun env S => (fl env S).bind fun xs S1 => (fb env S1).bind fun y S2 => match y with
  | .int i => R.ofO (atI xs i) S2
  | _ => .bad
theorem de_lix (ha : PE X a (tTm X.K fl W)) (hb : PE X b (tD X.K fb W)) (hs : PlainIx b := by intro _ _; rfl) : PE X (.Subscript a b pos) (tD X.K (lIx fl fb) W) := by
  refine PE.imp (pe_ix ix_list ha hb hs) fun σ H Q ⟨ι, env, S, r, en, h⟩ => ⟨ι, env, S, r, en, (ends.bind h).imp fun v H1 ⟨ι1, xs, S1, _, e1, r1, ⟨p, vs, ev, hf, hp, d1, hn⟩, h1⟩ => ⟨ι1, env, S1, r1, en.mono e1.toGr, (ends.bind h1).imp fun w H2 ⟨ι2, y, S2, _, e2, r2, d2, h2⟩ => ?_⟩⟩
  subst ev
  cases d2 with
  | int i =>
    obtain ⟨d, e, h2⟩ := ofO_ret h2
    obtain ⟨v, e3, dv⟩ := (d1.mono e2.toGr).atI e
    exact ⟨p, vs, i, v, rfl, rfl, SqL.of (e2.fr p _ hn hp), e3, h2 ι2 H2 v (Ext.refl _ _) r2 dv⟩
  | _ => exact h2.elim

/-! ### x in y -/
def inP (S : Sto) (x y : D) : Option Bool := match toPy S 12 x, toPy S 12 y with
  | some d, some (.list ds) => if SeqAt.shaped d = true ∧ SeqAt.shaped (.list ds) = true then some (ds.any fun z => PyData.eqv z d) else none
  | some d, some (.tuple ds) => if SeqAt.shaped d = true ∧ SeqAt.shaped (.tuple ds) = true then some (ds.any fun z => PyData.eqv z d) else none
  | _, _ => none
def dInB (x y : D) (S : Sto) : Option Bool := match y with
  | .str b => (match x with
    | .str a => some (!(Builtin.Str.occurrences b a 0 b.length 1).isEmpty)
    | _ => none)
  | .tup _ => inP S x y
  | .scr _ => inP S x y
  | .ref n => (match S[n]? with
    | some (.lst _) => inP S x y
    | _ => (dLook n x S).map (·.isSome))
  | _ => none
def dIn (x y : D) (S : Sto) : R D := ofB (dInB x y S) S
def dNin (x y : D) (S : Sto) : R D := ofB ((dInB x y S).map not) S
/-- in, with the answer turned by f -/
def cIn (neg : Bool) : CmpOp := if neg then .NotIn else .In
def fIn (neg b : Bool) : Bool := if neg then !b else b
theorem OV.isSome {K : PySem.W.Frag} {H : Hp} {ι : List Addr} {o : Option D} {v : Option V} (h : OV K H ι o v) : o.isSome = v.isSome := by
  cases o with
  | none => rw [show v = none from h]; rfl
  | some d => obtain ⟨w, e, _⟩ := h; rw [e]; rfl
theorem in_go (hu : X.A.units + 65 < cLine) {neg : Bool} {pins : List (Addr × Obj)} {s : Shared} {σ : St} {H : Hp} {ι : List Addr} {S : Sto} {x y : D} {x' y' : V} {u v : Value} {Q : VK} {b : Bool} (I : Inv X pins σ H s) (r : Rep X.K H ι S) (dx : DV X.K H ι x x') (dy : DV X.K H ι y y')
    (rx : RelV x' u) (ry : RelV y' v) (h : dInB x y S = some b) (q : Q (.bl (fIn neg b)) H) : wpAny (model X.prog X.w) X.A (compareOp (cIn neg) u v) (EP X pins σ Q) X.xe s := by
  have fin : ∀ {s'}, Inv X pins σ H s' → EP X pins σ Q (.bool (fIn neg b)) s' := fun I' => ⟨.bl _, H, I', rfl, q⟩
  have sq : inP S x y = some b → wpAny (model X.prog X.w) X.A (compareOp (cIn neg) u v) (EP X pins σ Q) X.xe s := fun h => by
    unfold inP at h
    split at h
    · rename_i d ds h1 h2
      split at h
      · rename_i hz
        cases h
        obtain ⟨as, r1⟩ := Dp.reads I d x' u (toPy_ok r _ _ _ _ dx h1) rx
        obtain ⟨bs, r2⟩ := Dp.reads I (.list ds) y' v (toPy_ok r _ _ _ _ dy h2) ry
        cases neg with
        | false => exact SeqAt.in_list_reads r2 r1 (SeqAt.canLay_of_shaped hz.2) (SeqAt.canLay_of_shaped hz.1) (room_in_shaped hz.1 hu) (fin I)
        | true => exact SeqAt.notIn_list_reads r2 r1 (SeqAt.canLay_of_shaped hz.2) (SeqAt.canLay_of_shaped hz.1) (room_in_shaped hz.1 hu) (fin I)
      · cases h
    · rename_i d ds h1 h2
      split at h
      · rename_i hz
        cases h
        obtain ⟨as, r1⟩ := Dp.reads I d x' u (toPy_ok r _ _ _ _ dx h1) rx
        obtain ⟨bs, r2⟩ := Dp.reads I (.tuple ds) y' v (toPy_ok r _ _ _ _ dy h2) ry
        cases neg with
        | false => exact SeqAt.in_tuple_reads r2 r1 (SeqAt.canLay_of_shaped hz.2) (SeqAt.canLay_of_shaped hz.1) (room_in_shaped hz.1 hu) (fin I)
        | true => exact SeqAt.notIn_tuple_reads r2 r1 (SeqAt.canLay_of_shaped hz.2) (SeqAt.canLay_of_shaped hz.1) (room_in_shaped hz.1 hu) (fin I)
      · cases h
    · cases h
  cases dy with
  | str z =>
    cases dx with
    | str w =>
      cases h
      obtain ⟨t, rfl⟩ := rx
      obtain ⟨t', rfl⟩ := ry
      cases neg with
      | false => exact in_str (fin I)
      | true => exact notIn_str (fin I)
    | _ => cases h
  | tup h1 d1 => exact sq h
  | scr hs => exact sq h
  | @ref n a ha =>
    simp only [dInB] at h
    split at h
    · exact sq h
    · cases e : dLook n x S with
      | none => rw [e] at h; cases h
      | some o =>
        rw [e] at h
        cases h
        obtain ⟨o', g, ov⟩ := dLook_ok r ha dx e
        simp only [ov.isSome] at fin
        cases ry
        have hu1 : X.A.units + 1 < cLine := by omega
        cases neg with
        | false => exact d_in hu1 I g rx fun s' I' => fin I'
        | true => exact d_notIn hu1 I g rx fun s' I' => fin I'
  | _ => cases h
theorem cd_in (c : Ctx X W k N vis loc gls) : OpD X W (compareOp .In) dIn := fun pins s σ H ι S x y x' y' u v Q I r dx dy rx ry h => by
  obtain ⟨b, e, q⟩ := ofB_end r h
  have un := c.hr.un
  exact in_go (neg := false) (by omega) I r dx dy rx ry e q
theorem cd_nin (c : Ctx X W k N vis loc gls) : OpD X W (compareOp .NotIn) dNin := fun pins s σ H ι S x y x' y' u v Q I r dx dy rx ry h => by
  obtain ⟨b, e, q⟩ := ofB_end r h
  have un := c.hr.un
  cases z : dInB x y S with
  | none => rw [z] at e; cases e
  | some b' =>
    rw [z] at e
    cases e
    exact in_go (neg := true) (by omega) I r dx dy rx ry z q

/-! ### slices -/
def eNo : Env → Sto → R (Option Int) := fun _ S => .ok none S
def eSo (fa : Env → Sto → R D) : Env → Sto → R (Option Int) := fun env S => (fa env S).bind fun x S1 => match x with
  | .int i => .ok (some i) S1
  | _ => .bad
def cutL {α : Type} (xs : List α) (lo hi : Option Int) : List α := (xs.drop (HT.sIx xs.length 0 lo)).take (HT.sIx xs.length xs.length hi - HT.sIx xs.length 0 lo)
def oeR : Rl (Option Int) (Option Int) := fun _ _ a b => a = b
def eSl (fa : Env → Sto → R D) (fl fh : Env → Sto → R (Option Int)) : Env → Sto → R D := fun env S => (fa env S).bind fun x S1 => (fl env S1).bind fun l S2 => (fh env S2).bind fun h S3 => match x with
  | .tup xs => .ok (.tup (cutL xs l h)) S3
  | .str z => if z.length ≤ sizeLine then .ok (.str (cutS z l h)) S3 else .bad
  | .ref n => (match S3[n]? with
    | some (.lst xs) => .ok (.ref S3.length) (S3 ++ [.lst (cutL xs l h)])
    | _ => .bad)
  | _ => .bad
/-- a slice of a list, as a temporary -/
def lSl (fa : Env → Sto → R D) (fl fh : Env → Sto → R (Option Int)) : Env → Sto → R (List D) := fun env S => (fa env S).bind fun x S1 => (fl env S1).bind fun l S2 => (fh env S2).bind fun h S3 => (getL x S3).bind fun xs S4 => .ok (cutL xs l h) S4
theorem DVs.cut {K : PySem.W.Frag} {H : Hp} {ι : List Addr} {xs : List D} {vs : List V} (h : DVs K H ι xs vs) (l u : Option Int) : DVs K H ι (cutL xs l u) (cutV vs l u) := by
  unfold cutL cutV
  rw [h.length]
  exact (h.drop _).take _
variable {lo hi : Option Expr} {p2 : Pos} {gl gh : Env → Sto → R (Option Int)}
theorem do_no : PO X none (tG X.K oeR eNo W) := ⟨fun pins s σ H Q I ⟨ι, env, S, r, en, h⟩ => po_none.run pins s σ H Q I (h ι H none (Ext.refl _ _) r rfl)⟩
theorem do_so (ha : PE X a (tD X.K fa W)) : PO X (some a) (tG X.K oeR (eSo fa) W) := ⟨fun pins s σ H Q I ⟨ι, env, S, r, en, h⟩ => (po_some ha).run pins s σ H Q I ⟨ι, env, S, r, en, (ends.bind h).imp fun v H1 ⟨ι1, x, S1, _, e1, r1, d1, h1⟩ => by
  cases d1 with
  | int i => exact ⟨i, rfl, h1 ι1 H1 _ (Ext.refl _ _) r1 rfl⟩
  | _ => exact h1.elim⟩⟩
theorem whole_cut {α : Type} {xs : List α} {l h : Option Int} (w : HT.sIx xs.length 0 l = 0 ∧ HT.sIx xs.length xs.length h = xs.length) : cutL xs l h = xs := by
  unfold cutL
  rw [w.1, w.2]
  simp
theorem de_slice (ha : PE X a (tD X.K fa W)) (hl : PO X lo (tG X.K oeR gl W)) (hh : PO X hi (tG X.K oeR gh W)) : PE X (.Subscript a (.Slice lo hi none p2) pos) (tD X.K (eSl fa gl gh) W) := by
  refine PE.imp (pe_slice (sl_tupA.or (sl_str.or sl_list)) ha hl hh) fun σ H Q ⟨ι, env, S, r, en, h⟩ => ⟨ι, env, S, r, en, (ends.bind h).imp fun v H1 ⟨ι1, x, S1, _, e1, r1, d1, h1⟩ => ⟨ι1, env, S1, r1, en.mono e1.toGr, (ends.bind h1).imp fun l H2 ⟨ι2, l', S2, _, e2, r2, el, h2⟩ =>
    ⟨ι2, env, S2, r2, (en.mono e1.toGr).mono e2.toGr, (ends.bind h2).imp fun u H3 ⟨ι3, u', S3, _, e3, r3, eu, h3⟩ => ?_⟩⟩⟩
  obtain rfl : l' = l := el
  obtain rfl : u' = u := eu
  have d3 := (d1.mono e2.toGr).mono e3.toGr
  cases d3 with
  | @tup p vs ds q1 q2 =>
    refine .inl ⟨_, vs, rfl, SqT.of q1, fun w => ?_, fun _ p hp => ends.tup r3 (q2.cut l' u') h3 hp⟩
    have w' : HT.sIx ds.length 0 l' = 0 ∧ HT.sIx ds.length ds.length u' = ds.length := by rw [q2.length]; exact w
    have h4 : ends X.K W σ (DV X.K) H3 ι3 Q (.ok (.tup (cutL ds l' u')) S3) := h3
    rw [whole_cut w'] at h4
    exact h4 ι3 H3 _ (Ext.refl _ _) r3 (.tup q1 q2)
  | str z =>
    simp only at h3
    split at h3
    · rename_i hz
      exact .inr (.inl ⟨z, rfl, hz, h3 ι3 H3 _ (Ext.refl _ _) r3 (.str _)⟩)
    · exact h3.elim
  | ref hn =>
    simp only at h3
    split at h3
    · rename_i xs hs
      obtain ⟨vs, q1, q2⟩ := r3.lst hs hn
      exact .inr (.inr ⟨_, vs, rfl, SqL.of q1, fun p hp => ends.new r3 (.lst (q2.cut l' u')) h3 hp⟩)
    · exact h3.elim
  | _ => exact h3.elim
theorem tmp_end {K : PySem.W.Frag} {H0 H : Hp} {ι : List Addr} {S : Sto} {σ : St} {Q : VK} {xs : List D} {vs : List V} {ι0 : List Addr} (e : Ext H0 ι0 H ι) (r : Rep K H ι S) (d : DVs K H ι xs vs) (h : ends K W σ (tmpR K H0) H ι Q (.ok xs S)) {p : Addr} (hp : H p = none) : Q (.ref p) (upd H p (.lst vs)) :=
  h ι _ _ (Ext.junk _ hp) (r.junk _ hp) ⟨p, vs, rfl, e.was hp, upd_same, d.mono (Ext.junk _ hp).toGr, r.free hp⟩
theorem getL_end {K : PySem.W.Frag} {H : Hp} {ι : List Addr} {S : Sto} {α β : Type} {rel : Rl α β} {σ : St} {Q : β → Hp → Prop} {x : D} {v : V} {k : List D → Sto → R α} (r : Rep K H ι S) (d : DV K H ι x v) (h : ends K W σ rel H ι Q ((getL x S).bind k)) :
    ∃ a xs vs, v = .ref a ∧ SqL K H a vs ∧ DVs K H ι xs vs ∧ ends K W σ rel H ι Q (k xs S) := by
  cases d with
  | ref hn =>
    simp only [getL] at h
    split at h
    · rename_i xs hs
      obtain ⟨vs, q1, q2⟩ := r.lst hs hn
      exact ⟨_, xs, vs, rfl, SqL.of q1, q2, h⟩
    · exact h.elim
  | scr hs => exact ⟨_, _, _, rfl, hs.seq, DVs.of_ints _, h⟩
  | _ => exact h.elim
theorem dl_slice (ha : PE X a (tD X.K fa W)) (hl : PO X lo (tG X.K oeR gl W)) (hh : PO X hi (tG X.K oeR gh W)) : PE X (.Subscript a (.Slice lo hi none p2) pos) (tTm X.K (lSl fa gl gh) W) := by
  refine PE.imp (pe_slice sl_list ha hl hh) fun σ H Q ⟨ι, env, S, r, en, h⟩ => ⟨ι, env, S, r, en, (ends.bind h).imp fun v H1 ⟨ι1, x, S1, _, e1, r1, d1, h1⟩ => ⟨ι1, env, S1, r1, en.mono e1.toGr, (ends.bind h1).imp fun l H2 ⟨ι2, l', S2, _, e2, r2, el, h2⟩ =>
    ⟨ι2, env, S2, r2, (en.mono e1.toGr).mono e2.toGr, (ends.bind h2).imp fun u H3 ⟨ι3, u', S3, _, e3, r3, eu, h3⟩ => ?_⟩⟩⟩
  obtain rfl : l' = l := el
  obtain rfl : u' = u := eu
  obtain ⟨p, xs, vs, rfl, q1, q2, h4⟩ := getL_end r3 ((d1.mono e2.toGr).mono e3.toGr) h3
  exact ⟨p, vs, rfl, q1, fun p' hp => tmp_end ((e1.trans e2).trans e3) r3 (q2.cut l' u') h4 hp⟩
/-- xs[::-1] of a list -/
def lRev (fa : Env → Sto → R D) : Env → Sto → R (List D) := fun env S => (fa env S).bind fun x S1 => (getL x S1).bind fun xs S2 => .ok xs.reverse S2
theorem DVs.rev {K : PySem.W.Frag} {H : Hp} {ι : List Addr} : ∀ {ds : List D} {vs : List V}, DVs K H ι ds vs → DVs K H ι ds.reverse vs.reverse
  | _, _, .nil => .nil
  | _, _, .cons h t => by
    rw [List.reverse_cons, List.reverse_cons]
    exact (DVs.rev t).append (.cons h .nil)
theorem dl_rev {kk : Nat} {q1 q2 q3 : Pos} (ha : PE X a (tD X.K fa W)) : PE X (.Subscript a (.Slice none none (some (.UnaryOp .USub (.Constant (.int 1) kk q1) q2)) q3) pos) (tTm X.K (lRev fa) W) := by
  refine PE.imp (pe_revL ha) fun σ H Q ⟨ι, env, S, r, en, h⟩ => ⟨ι, env, S, r, en, (ends.bind h).imp fun v H1 ⟨ι1, x, S1, _, e1, r1, d1, h1⟩ => ?_⟩
  obtain ⟨p, xs, vs, rfl, q1, q2, h2⟩ := getL_end r1 d1 h1
  exact ⟨p, vs, rfl, q1, fun p' hp => tmp_end e1 r1 q2.rev h2 hp⟩
/-- a list that may be written: a temporary, or one of the store -/
inductive LS where
  | tm (xs : List D) | rf (d : D)
def lsR (K : PySem.W.Frag) (H0 : Hp) : Rl LS V := fun H ι l v => match l with
  | .tm xs => tmpR K H0 H ι xs v
  | .rf d => DV K H ι d v
def getM (l : LS) (S : Sto) : R (List D) := match l with
  | .tm xs => .ok xs S
  | .rf (.ref n) => (match S[n]? with
    | some (.lst xs) => .ok xs S
    | _ => .bad)
  | _ => .bad
def sTm (fl : Env → Sto → R (List D)) : Env → Sto → R LS := fun env S => (fl env S).bind fun xs S1 => .ok (.tm xs) S1
def sRf (fa : Env → Sto → R D) : Env → Sto → R LS := fun env S => (fa env S).bind fun x S1 => .ok (.rf x) S1
abbrev tLS (K : PySem.W.Frag) (f : Env → Sto → R LS) (W : WX) : TE := fun σ H Q => tG K (lsR K H) f W σ H Q
theorem dm_tm {fl : Env → Sto → R (List D)} (hl : PE X e (tTm X.K fl W)) : PE X e (tLS X.K (sTm fl) W) :=
  PE.imp hl fun σ H Q ⟨ι, env, S, r, en, h⟩ => ⟨ι, env, S, r, en, (ends.bind h).imp fun v H1 ⟨ι1, x, S1, _, e1, r1, d1, h1⟩ => h1 ι1 H1 v (Ext.refl _ _) r1 d1⟩
theorem dm_rf (ha : PE X e (tD X.K fa W)) : PE X e (tLS X.K (sRf fa) W) :=
  PE.imp ha fun σ H Q ⟨ι, env, S, r, en, h⟩ => ⟨ι, env, S, r, en, (ends.bind h).imp fun v H1 ⟨ι1, x, S1, _, e1, r1, d1, h1⟩ => h1 ι1 H1 v (Ext.refl _ _) r1 d1⟩
theorem getM_end {K : PySem.W.Frag} {H0 H : Hp} {ι : List Addr} {S : Sto} {α β : Type} {rel : Rl α β} {σ : St} {Q : β → Hp → Prop} {x : LS} {v : V} {k : List D → Sto → R α} (r : Rep K H ι S) (d : lsR K H0 H ι x v) (h : ends K W σ rel H ι Q ((getM x S).bind k)) :
    ∃ a xs vs, v = .ref a ∧ H a = some (.lst vs) ∧ DVs K H ι xs vs ∧ ends K W σ rel H ι Q (k xs S) := by
  cases x with
  | tm xs =>
    obtain ⟨p, vs, rfl, _, hp, d, hn⟩ := d
    exact ⟨p, xs, vs, rfl, hp, d, h⟩
  | rf d' =>
    cases d' with
    | ref n =>
      cases d with
      | ref hn =>
        simp only [getM] at h
        split at h
        · rename_i xs hs
          obtain ⟨vs, q1, q2⟩ := r.lst hs hn
          exact ⟨_, xs, vs, rfl, q1, q2, h⟩
        · exact h.elim
    | _ => exact h.elim
theorem lsR.mono {K : PySem.W.Frag} {H0 H H' : Hp} {ι ι' : List Addr} {x : LS} {v : V} (d : lsR K H0 H ι x v) (e : Ext H ι H' ι') : lsR K H0 H' ι' x v := by
  cases x with
  | tm xs =>
    obtain ⟨p, vs, rfl, h0, hp, d, hn⟩ := d
    refine ⟨p, vs, rfl, h0, e.fr p _ hn hp, d.mono e.toGr, fun z => ?_⟩
    rcases e.nw p z with q | q
    · exact hn q
    · rw [hp] at q; cases q
  | rf d' => exact DV.mono e.toGr d
/-- list + list, a temporary -/
def lCat (fl fm : Env → Sto → R LS) : Env → Sto → R (List D) := fun env S => (fl env S).bind fun x S1 => (fm env S1).bind fun y S2 => (getM x S2).bind fun xs S3 => (getM y S3).bind fun ys S4 => if small (xs.length + ys.length) then .ok (xs ++ ys) S4 else .bad
theorem dl_cat {gl gm : Env → Sto → R LS} (ha : PE X a (tLS X.K gl W)) (hb : PE X b (tLS X.K gm W)) : PE X (.BinOp a .Add b pos) (tTm X.K (lCat gl gm) W) := by
  refine PE.imp (pe_op op_cat ha hb) fun σ H Q ⟨ι, env, S, r, en, h⟩ => ⟨ι, env, S, r, en, (ends.bind h).imp fun v H1 ⟨ι1, x, S1, _, e1, r1, d1, h1⟩ => ⟨ι1, env, S1, r1, en.mono e1.toGr, (ends.bind h1).imp fun w H2 ⟨ι2, y, S2, _, e2, r2, d2, h2⟩ => ?_⟩⟩
  obtain ⟨p, xs, vs, rfl, q1, q2, h3⟩ := getM_end r2 (d1.mono e2) h2
  obtain ⟨p', ys, us, rfl, q3, q4, h4⟩ := getM_end r2 d2 h3
  split at h4
  · rename_i hz
    exact ⟨p, p', vs, us, rfl, rfl, q1, q3, by rw [← q2.length, ← q4.length]; exact of_decide_eq_true hz, fun p'' hp => tmp_end (e1.trans e2) r2 (q2.append q4) h4 hp⟩
  · exact h4.elim
/-- [x] * n -/
def lRep (fl : Env → Sto → R LS) (fb : Env → Sto → R D) : Env → Sto → R (List D) := fun env S => (fl env S).bind fun x S1 => (fb env S1).bind fun y S2 => (getM x S2).bind fun xs S3 => match y with
  | .int n => if -(2 ^ 63) ≤ n ∧ n < 2 ^ 63 ∧ xs.length * n.toNat ≤ sizeLine then .ok (List.replicate n.toNat xs).flatten S3 else .bad
  | _ => .bad
theorem DVs.rep {K : PySem.W.Frag} {H : Hp} {ι : List Addr} {xs : List D} {vs : List V} (h : DVs K H ι xs vs) : ∀ n : Nat, DVs K H ι (List.replicate n xs).flatten (List.replicate n vs).flatten
  | 0 => .nil
  | n + 1 => by
    simp only [List.replicate_succ, List.flatten_cons]
    exact h.append (DVs.rep h n)
theorem dl_rep {gl : Env → Sto → R LS} (ha : PE X a (tLS X.K gl W)) (hb : PE X b (tD X.K fb W)) : PE X (.BinOp a .Mult b pos) (tTm X.K (lRep gl fb) W) := by
  refine PE.imp (pe_op op_rep ha hb) fun σ H Q ⟨ι, env, S, r, en, h⟩ => ⟨ι, env, S, r, en, (ends.bind h).imp fun v H1 ⟨ι1, x, S1, _, e1, r1, d1, h1⟩ => ⟨ι1, env, S1, r1, en.mono e1.toGr, (ends.bind h1).imp fun w H2 ⟨ι2, y, S2, _, e2, r2, d2, h2⟩ => ?_⟩⟩
  obtain ⟨p, xs, vs, rfl, q1, q2, h3⟩ := getM_end r2 (d1.mono e2) h2
  cases d2 with
  | int n =>
    simp only at h3
    split at h3
    · rename_i hz
      exact ⟨p, n, vs, rfl, rfl, q1, hz.1, hz.2.1, by rw [← q2.length]; exact hz.2.2, fun p'' hp => tmp_end (e1.trans e2) r2 (q2.rep _) h3 hp⟩
    · exact h3.elim
  | _ => exact h3.elim
end
end
end DL

namespace DL
open PySem PySem.Spec PyProof.Rows L2

/-! ### targets -/
abbrev Asg := D → Env → Option Env
abbrev Asgs := List D → Env → Option Env
def aName (i : Nat) : Asg := fun d env => some (env.set i (some d))
def asNil : Asgs := fun ds env => match ds with
  | [] => some env
  | _ => none
def asCons (a : Asg) (r : Asgs) : Asgs := fun ds env => match ds with
  | d :: ds => (a d env).bind fun e => r ds e
  | [] => none
def aTup (n : Nat) (r : Asgs) : Asg := fun d env => match d with
  | .tup xs => if xs.length = n then r xs env else none
  | _ => none
/-- the slots ts may have changed -/
def Chg (ts : List Nat) (σ σ' : St) : Prop := σ'.length = σ.length ∧ ∀ j, j ∉ ts → σ'[j]? = σ[j]?
def gD (K : PySem.W.Frag) (a : Asg) (ts : List Nat) : TG := fun v σ H Q => ∃ ι env x env', EnvR K H ι env σ ∧ DV K H ι x v ∧ a x env = some env' ∧ ∀ σ', EnvR K H ι env' σ' → Chg ts σ σ' → Q σ' H
def gsD (K : PySem.W.Frag) (a : Asgs) (ts : List Nat) : TGs := fun vs σ H Q => ∃ ι env xs env', EnvR K H ι env σ ∧ DVs K H ι xs vs ∧ a xs env = some env' ∧ ∀ σ', EnvR K H ι env' σ' → Chg ts σ σ' → Q σ' H
section
variable {X : Cx} {W : WX} {k : Nat} {N : List Str} {vis loc : List Nat} {gls : List Str} {e : Expr} {es : List Expr} {pos : Pos} {a : Asg} {as : Asgs} {ts us : List Nat}
theorem PG.imp {t t' : TG} (h : PG X e t) (q : ∀ v σ H Q, t' v σ H Q → t v σ H Q) : PG X e t' := ⟨fun pins s σ H v u Q I r hw => h.run pins s σ H v u Q I r (q v σ H Q hw)⟩
theorem PGs.imp {t t' : TGs} (h : PGs X es t) (q : ∀ v σ H Q, t' v σ H Q → t v σ H Q) : PGs X es t' := ⟨fun pins s σ H v u Q I r hw => h.run pins s σ H v u Q I r (q v σ H Q hw)⟩
theorem dg_name (c : Ctx X W k N vis loc gls) (i : Nat) {x : Str} (hN : N[i]? = some x := by rfl) (hl : loc.contains i = true := by rfl) : PG X (.Name x pos) (gD X.K (aName i) [i]) := by
  obtain ⟨h1, h2⟩ := c.hl i (by simpa using hl) x hN
  refine PG.imp (pg_name (i := i) (by rw [c.hN]; exact c.nd) (by rw [c.hN]; exact hN) h1 h2) fun v σ H Q ⟨ι, env, x, env', en, dv, ha, h⟩ => ?_
  cases ha
  exact h _ (en.set dv i) ⟨by simp, fun j hj => List.getElem?_set_ne (fun z => hj (by simp [z]))⟩
theorem dgs_nil : PGs X [] (gsD X.K asNil []) := PGs.imp pgs_nil fun v σ H Q ⟨ι, env, xs, env', en, dv, ha, h⟩ => by
  cases dv with
  | nil => cases ha; exact ⟨rfl, h σ en ⟨rfl, fun _ _ => rfl⟩⟩
  | cons _ _ => cases ha
theorem dgs_cons (h1 : PG X e (gD X.K a ts)) (h2 : PGs X es (gsD X.K as us)) (hs : (assignEach (e :: es) X.env).map (·.2) = assign e X.env :: (assignEach es X.env).map (·.2) := by rfl) : PGs X (e :: es) (gsD X.K (asCons a as) (ts ++ us)) := by
  refine PGs.imp (pgs_cons h1 h2 hs) fun v σ H Q ⟨ι, env, xs, env', en, dv, ha, h⟩ => ?_
  cases dv with
  | nil => cases ha
  | @cons x xs v vs d1 d2 =>
    simp only [asCons] at ha
    cases q : a x env with
    | none => rw [q] at ha; cases ha
    | some e1 =>
      rw [q] at ha
      exact ⟨v, vs, rfl, ι, env, x, e1, en, d1, q, fun σ1 en1 c1 => ⟨ι, e1, xs, env', en1, d2, ha, fun σ2 en2 c2 => h σ2 en2 ⟨c2.1.trans c1.1, fun j hj => (c2.2 j (fun z => hj (List.mem_append_right _ z))).trans (c1.2 j fun z => hj (List.mem_append_left _ z))⟩⟩⟩
theorem dg_tup {kk n : Nat} (c : Ctx X W k N vis loc gls) (h : PGs X es (gsD X.K as ts)) (hn : (assignEach es X.env).length = n := by rfl) (hst : (assignEach es X.env).findIdx? (·.1) = none := by rfl) : PG X (.Tuple es kk pos) (gD X.K (aTup n as) ts) := by
  refine PG.imp (pg_tup c.calm h hn hst) fun v σ H Q ⟨ι, env, x, env', en, dv, ha, h⟩ => ?_
  cases dv with
  | tup h1 d1 =>
    simp only [aTup] at ha
    split at ha
    · rename_i hl
      exact ⟨_, _, rfl, SqT.of h1, by rw [← d1.length]; exact hl, ι, env, _, env', en, d1, ha, h⟩
    · cases ha
  | _ => cases ha
end

/-! ### what is walked -/
structure Src where
  xs : List D
  g : Sto → Prop
def ItD (K : PySem.W.Frag) (J : It) (H0 : Hp) (ι0 : List Addr) (xs : List D) (g : Sto → Prop) : Prop :=
  ∀ (i : Nat) (H : Hp) (ι : List Addr) (S : Sto), Ext H0 ι0 H ι → Rep K H ι S → g S →
    (∀ d, xs[i]? = some d → J.go i H ∧ ∀ x H', J.yld i H x H' → ∃ ι', Ext H ι H' ι' ∧ Rep K H' ι' S ∧ DV K H' ι' d x) ∧ (xs.length ≤ i → J.stop i H)
def itR (K : PySem.W.Frag) : Rl Src It := fun H ι s J => ItD K J H ι s.xs s.g
abbrev tI (K : PySem.W.Frag) (f : Env → Sto → R Src) (W : WX) : TI := tG K (itR K) f W
def kD : Key → D
  | .inl i => .int i
  | .inr s => .str s
theorem kD_ok {K : PySem.W.Frag} {H : Hp} {ι : List Addr} (k : Key) : DV K H ι (kD k) (kV k) := by cases k <;> constructor
theorem kDs_ok {K : PySem.W.Frag} {H : Hp} {ι : List Addr} : ∀ ks : List Key, DVs K H ι (ks.map kD) (ks.map kV)
  | [] => .nil
  | k :: r => .cons (kD_ok k) (kDs_ok r)
theorem DP.key {κ : Type} {K : PySem.W.Frag} {H : Hp} {ι : List Addr} : ∀ {kvs : List (κ × D)} {kws : List (κ × V)}, DP K H ι kvs kws → ∀ i : Nat, (kvs[i]?).map (·.1) = (kws[i]?).map (·.1)
  | _, _, .nil, i => by simp
  | _, _, .cons _ t, 0 => rfl
  | _, _, .cons _ t, i + 1 => by simpa using DP.key t i
def Tru : Sto → Prop := fun _ => True
def gIt (x : D) (S : Sto) : R Src := match x with
  | .tup xs => .ok ⟨xs, Tru⟩ S
  | .scr ns => .ok ⟨ns.map .int, Tru⟩ S
  | .str z => .ok ⟨z.cps.toList.map fun c => .str ⟨#[c]⟩, Tru⟩ S
  | .ref n => (match S[n]? with
    | some (.lst xs) => .ok ⟨xs, fun S => S[n]? = some (.lst xs)⟩ S
    | some (.fK kvs) => .ok ⟨kvs.map fun p => kD p.1, fun S => S[n]? = some (.fK kvs)⟩ S
    | some (.fT kvs) => .ok ⟨kvs.map fun p => .tup (p.1.map kD), fun S => S[n]? = some (.fT kvs)⟩ S
    | _ => .bad)
  | _ => .bad
section
variable {K : PySem.W.Frag} {H0 : Hp} {ι0 : List Addr} {g : Sto → Prop}
theorem it_lst {a : Addr} {xs : List D} (h : ∀ (H : Hp) (ι : List Addr) (S : Sto), Ext H0 ι0 H ι → Rep K H ι S → g S → ∃ vs, SqL K H a vs ∧ DVs K H ι xs vs) : ItD K (Itl K a) H0 ι0 xs g := fun i H ι S e r hg => by
  obtain ⟨vs, q1, q2⟩ := h H ι S e r hg
  refine ⟨fun d hd => ?_, fun hl => ⟨vs, q1, by rw [← q2.length]; exact hl⟩⟩
  obtain ⟨v, h1, h2⟩ := q2.get hd
  refine ⟨⟨vs, v, q1, h1⟩, fun x H' ⟨hH, hx⟩ => ?_⟩
  subst hH
  have := hx vs q1
  rw [h1] at this
  cases this
  exact ⟨ι, Ext.refl _ _, r, h2⟩
theorem it_tup {a : Addr} {xs : List D} {vs : List V} (h : H0 a = some (.tup vs)) (d : DVs K H0 ι0 xs vs) : ItD K (Itt K a) H0 ι0 xs Tru := fun i H ι S e r _ => by
  have q1 : SqT K H a vs := SqT.of (e.kp _ _ rfl h)
  have q2 := d.mono e.toGr
  refine ⟨fun d hd => ?_, fun hl => ⟨vs, q1, by rw [← q2.length]; exact hl⟩⟩
  obtain ⟨v, h1, h2⟩ := q2.get hd
  refine ⟨⟨vs, v, q1, h1⟩, fun x H' ⟨hH, hx⟩ => ?_⟩
  subst hH
  have := hx vs q1
  rw [h1] at this
  cases this
  exact ⟨ι, Ext.refl _ _, r, h2⟩
theorem it_str (z : Str) : ItD K (Its z) H0 ι0 (z.cps.toList.map fun c => .str ⟨#[c]⟩) Tru := fun i H ι S e r _ => by
  refine ⟨fun d hd => ?_, fun hl => ?_⟩
  · rw [List.getElem?_map] at hd
    cases q : z.cps.toList[i]? with
    | none => rw [q] at hd; cases hd
    | some c =>
      rw [q] at hd
      cases hd
      have hc : z.cps[i]? = some c := by rw [← Array.getElem?_toList]; exact q
      have hi := (Array.getElem?_eq_some_iff.mp hc).1
      refine ⟨hi, fun x H' ⟨hH, c', hc', hx⟩ => ?_⟩
      subst hH hx
      rw [hc] at hc'
      cases hc'
      exact ⟨ι, Ext.refl _ _, r, .str _⟩
  · have : z.cps.size ≤ i := by simpa using hl
    exact this
theorem it_rng {lo : Int} {n : Nat} : ItD K (Itr lo n) H0 ι0 ((List.range n).map fun i => D.int (lo + (i : Nat))) Tru := fun i H ι S e r _ => by
  refine ⟨fun d hd => ?_, fun hl => (show n ≤ i by simpa using hl)⟩
  rw [List.getElem?_map] at hd
  by_cases hi : i < n
  · rw [List.getElem?_range hi] at hd
    cases hd
    exact ⟨hi, fun x H' ⟨hH, hx⟩ => by subst hH hx; exact ⟨ι, Ext.refl _ _, r, .int _⟩⟩
  · rw [List.getElem?_eq_none (by simp; omega)] at hd
    cases hd
end
section
variable {X : Cx} {W : WX} {k : Nat} {N : List Str} {vis loc : List Nat} {gls : List Str} {tg e e2 : Expr} {pos p : Pos} {fa fb : Env → Sto → R D} {fl fm : Env → Sto → R (List D)}
theorem PI.imp {t t' : TI} (h : PI X tg e t) (q : ∀ σ H R, t' σ H R → t σ H R) : PI X tg e t' := ⟨fun pins s σ H R I hw => h.run pins s σ H R I (q σ H R hw)⟩
/-- any of these, as its value turns out -/
theorem di_of (he : PE X e (tD X.K fa W)) : PI X tg e (tI X.K (fun env S => (fa env S).bind gIt) W) := by
  refine ⟨fun pins s σ H R I ⟨ι, env, S, r, en, h⟩ => ?_⟩
  refine thn (he.run pins s σ H _ I ⟨ι, env, S, r, en, ends.bind h⟩) fun u s1 ⟨v, H1, I1, ru, ι1, x, S1, _, e1, r1, d1, h1⟩ => ?_
  cases d1 with
  | tup q1 q2 =>
    cases ru
    obtain ⟨its, rv, pp, hz⟩ := I1.tuple (SqT.of q1)
    exact wpAny_pyIter_tuple (show s1.heap.IsTuple _ its.toArray from pp) (pi_one (tk := s1.toks) I1 _ (turn_tuple _ _) ⟨_, Heap.get?_push_size _ rfl, rfl, rfl⟩ (h1 ι1 H1 _ (Ext.refl _ _) r1 (it_tup q1 q2)))
  | scr hs =>
    cases ru
    obtain ⟨its, rv, pp, hz⟩ := I1.list hs.seq
    refine wpAny_pyIter_list pp.isList (pi_one (tk := s1.toks) I1 _ (turn_list _ _) ⟨_, Heap.get?_push_size _ rfl, rfl, rfl⟩ (h1 ι1 H1 _ (Ext.refl _ _) r1 (it_lst fun H2 ι2 S2 e2 r2 _ => ⟨_, (e2.scr hs).seq, DVs.of_ints _⟩)))
  | str z =>
    obtain ⟨t, rfl⟩ := ru
    have q := h1 ι1 H1 _ (Ext.refl _ _) r1 (it_str z)
    cases ha : z.cps.all (· < 128)
    · exact wpAny_pyIter_wide ha (pi_one (tk := s1.toks) I1 _ (turn_str _ z t "str_iterator" (.inr rfl)) ⟨_, Heap.get?_push_size _ rfl, rfl, rfl⟩ q)
    · exact wpAny_pyIter_ascii ha (pi_one (tk := s1.toks) I1 _ (turn_str _ z t "str_ascii_iterator" (.inl rfl)) ⟨_, Heap.get?_push_size _ rfl, rfl, rfl⟩ q)
  | @ref n a hn =>
    cases ru
    simp only [gIt] at h1
    split at h1
    · rename_i xs hs
      obtain ⟨vs, q1, q2⟩ := r1.lst hs hn
      obtain ⟨its, rv, pp, hz⟩ := I1.list (SqL.of q1)
      refine wpAny_pyIter_list pp.isList (pi_one (tk := s1.toks) I1 _ (turn_list _ _) ⟨_, Heap.get?_push_size _ rfl, rfl, rfl⟩ (h1 ι1 H1 _ (Ext.refl _ _) r1 (it_lst fun H2 ι2 S2 e2 r2 hg => ?_)))
      obtain ⟨us, z1, z2⟩ := r2.lst hg (e2.get hn)
      exact ⟨us, SqL.of z1, z2⟩
    · rename_i kvs hs
      obtain ⟨o, kws, q1, q2⟩ := r1.fK hs hn
      obtain ⟨hs', hgd, hx, es, ep, vs, hdt, hsz, kv, hm⟩ := I1.frzK q1
      refine iter_keys hs' hgd hx hdt (pi_one (tk := s1.toks) I1 _ (turn_keys (d := a) (kvs := kws) _ hdt) ⟨_, Heap.get?_push_size _ rfl, rfl, ?_⟩ (h1 ι1 H1 _ (Ext.refl _ _) r1 fun i H2 ι2 S2 e2 r2 hg => ?_))
      · rw [hsz] <;> rfl
      · have z := e2.kp _ _ rfl q1
        refine ⟨fun d hd => ?_, fun hl => ⟨z, by rw [← q2.length]; simpa using hl⟩⟩
        rw [List.getElem?_map] at hd
        cases w : kvs[i]? with
        | none => rw [w] at hd; cases hd
        | some pr =>
          rw [w] at hd
          cases hd
          have hi := (List.getElem?_eq_some_iff.mp w).1
          refine ⟨⟨z, by rw [← q2.length]; exact hi⟩, fun x H' ⟨hH, kk, v, hkv, hx⟩ => ?_⟩
          subst hH hx
          have := q2.key i
          rw [w, hkv] at this
          cases this
          exact ⟨ι2, Ext.refl _ _, r2, kD_ok _⟩
    · rename_i kvs hs
      obtain ⟨o, kws, q1, q2⟩ := r1.fT hs hn
      obtain ⟨hs', hgd, hx, es, ep, hdt, hsz, ent⟩ := I1.frzT q1
      refine iter_keys hs' hgd hx hdt (pi_one (tk := s1.toks) I1 _ (turn_keysT (d := a) (kvs := kws) _ hdt) ⟨_, Heap.get?_push_size _ rfl, rfl, ?_⟩ (h1 ι1 H1 _ (Ext.refl _ _) r1 fun i H2 ι2 S2 e2 r2 hg => ?_))
      · rw [hsz] <;> rfl
      · have z := e2.kp _ _ rfl q1
        refine ⟨fun d hd => ?_, fun hl => ⟨z, by rw [← q2.length]; simpa using hl⟩⟩
        rw [List.getElem?_map] at hd
        cases w : kvs[i]? with
        | none => rw [w] at hd; cases hd
        | some pr =>
          rw [w] at hd
          cases hd
          have hi := (List.getElem?_eq_some_iff.mp w).1
          refine ⟨⟨z, by rw [← q2.length]; exact hi⟩, fun x H' ⟨hH, kk, v, q, hkv, hx, hq⟩ => ?_⟩
          subst hH hx
          have := q2.key i
          rw [w, hkv] at this
          cases this
          exact ⟨ι2, Ext.refl _ _, r2, .tup hq (kDs_ok _)⟩
    · exact h1.elim
  | _ => exact h1.elim
end
end DL

namespace DL
open PySem PySem.Spec PyProof.Rows L2
section
variable {X : Cx} {W : WX} {k : Nat} {N : List Str} {vis loc : List Nat} {gls : List Str} {tg e e2 : Expr} {pos p : Pos} {fa fb : Env → Sto → R D} {fl fm : Env → Sto → R (List D)} {fs : Env → Sto → R (List D)}
/-- a temporary list is walked -/
def iTm (fl : Env → Sto → R (List D)) : Env → Sto → R Src := fun env S => (fl env S).bind fun xs S1 => .ok ⟨xs, Tru⟩ S1
theorem tmp_keep {H H' : Hp} {ι ι' : List Addr} {a : Addr} {vs : List V} (e : Ext H ι H' ι') (hn : a ∉ ι) (h : H a = some (.lst vs)) : H' a = some (.lst vs) ∧ a ∉ ι' := ⟨e.fr a _ hn h, fun z => by
  rcases e.nw a z with q | q
  · exact hn q
  · rw [h] at q; cases q⟩
theorem di_tm (he : PE X e (tTm X.K fl W)) : PI X tg e (tI X.K (iTm fl) W) := by
  refine PI.imp (pi_list he) fun σ H R ⟨ι, env, S, r, en, h⟩ => ⟨ι, env, S, r, en, (ends.bind h).imp fun v H1 ⟨ι1, xs, S1, _, e1, r1, ⟨a, vs, ev, _, hp, d1, hn⟩, h1⟩ => ?_⟩
  exact ⟨a, ev, ⟨vs, SqL.of hp⟩, h1 ι1 H1 _ (Ext.refl _ _) r1 (it_lst fun H2 ι2 S2 e2 r2 _ => ⟨vs, SqL.of (tmp_keep e2 hn hp).1, d1.mono e2.toGr⟩)⟩
/-- range(n), range(a, b) -/
def rngL (lo hi : Int) : List D := (List.range (hi - lo).toNat).map fun i => .int (lo + (i : Nat))
def rOk (n : Int) : Bool := decide (-(2 ^ 62) ≤ n ∧ n < 2 ^ 62)
def iRg1 (fa : Env → Sto → R D) : Env → Sto → R Src := fun env S => (fa env S).bind fun x S1 => match x with
  | .int j => if rOk j then .ok ⟨rngL 0 j, Tru⟩ S1 else .bad
  | _ => .bad
def iRg2 (fa fb : Env → Sto → R D) : Env → Sto → R Src := fun env S => (fa env S).bind fun x S1 => (fb env S1).bind fun y S2 => match x, y with
  | .int i, .int j => if rOk i && rOk j then .ok ⟨rngL i j, Tru⟩ S2 else .bad
  | _, _ => .bad
theorem di_rg1 (c : Ctx X W k N vis loc gls) (hm : X.mg "range" = none) (ha : PE X e (tD X.K fa W)) (hg : gls.contains ("range" : Str) = true := by decide +kernel) (hs : starEach [e] X.env = [(false, eval e X.env)] := by rfl) : PI X tg (.Call (.Name "range" p) [e] [] pos) (tI X.K (iRg1 fa) W) := by
  refine PI.imp (pi_range1 (c.hg "range" (by simpa using hg)) hm (pa_cons ha pa_nil hs) hs) fun σ H R ⟨ι, env, S, r, en, h⟩ => ⟨ι, env, S, r, en, (ends.bind h).imp fun v H1 ⟨ι1, x, S1, _, e1, r1, d1, h1⟩ => ?_⟩
  cases d1 with
  | int j =>
    simp only at h1
    split at h1
    · rename_i hj
      have hj' := of_decide_eq_true hj
      refine ⟨j, rfl, hj'.1, hj'.2, h1 ι1 H1 _ (Ext.refl _ _) r1 ?_⟩
      have e : (j - 0).toNat = j.toNat := by rw [Int.sub_zero]
      show ItD X.K _ _ _ (rngL 0 j) Tru
      unfold rngL
      rw [e]
      exact it_rng
    · exact h1.elim
  | _ => exact h1.elim
theorem di_rg2 (c : Ctx X W k N vis loc gls) (hm : X.mg "range" = none) (ha : PE X e (tD X.K fa W)) (hb : PE X e2 (tD X.K fb W)) (hg : gls.contains ("range" : Str) = true := by decide +kernel) (hs : starEach [e, e2] X.env = [(false, eval e X.env), (false, eval e2 X.env)] := by rfl) (hs2 : starEach [e2] X.env = [(false, eval e2 X.env)] := by rfl) : PI X tg (.Call (.Name "range" p) [e, e2] [] pos) (tI X.K (iRg2 fa fb) W) := by
  refine PI.imp (pi_range2 (c.hg "range" (by simpa using hg)) hm (pa_cons ha (pa_cons hb pa_nil hs2) (by rw [hs, hs2])) hs hs2) fun σ H R ⟨ι, env, S, r, en, h⟩ => ⟨ι, env, S, r, en, (ends.bind h).imp fun v H1 ⟨ι1, x, S1, _, e1, r1, d1, h1⟩ => ⟨ι1, env, S1, r1, en.mono e1.toGr, (ends.bind h1).imp fun v2 H2 ⟨ι2, y, S2, _, e2, r2, d2, h2⟩ => ?_⟩⟩
  cases d1 with
  | int i =>
    cases d2 with
    | int j =>
      simp only at h2
      split at h2
      · rename_i hj
        obtain ⟨hi, hj⟩ := Bool.and_eq_true_iff.mp hj
        have hi' := of_decide_eq_true hi
        have hj' := of_decide_eq_true hj
        exact ⟨i, j, rfl, ⟨hi'.1, hi'.2, hj'.1, hj'.2⟩, h2 ι2 H2 _ (Ext.refl _ _) r2 it_rng⟩
      · exact h2.elim
    | _ => exact h2.elim
  | _ => cases d2 <;> exact h2.elim
/-- enumerate(xs), zip(xs, ys) -/
def lGuard (l : LS) (xs : List D) : Sto → Prop := match l with
  | .tm _ => Tru
  | .rf (.ref n) => fun S => S[n]? = some (.lst xs)
  | _ => Tru
def iEn (fl : Env → Sto → R LS) : Env → Sto → R Src := fun env S => (fl env S).bind fun l S1 => (getM l S1).bind fun xs S2 => .ok ⟨xs.mapIdx fun i x => .tup [.int (i : Nat), x], lGuard l xs⟩ S2
def iZi (fl fm : Env → Sto → R LS) : Env → Sto → R Src := fun env S => (fl env S).bind fun l S1 => (fm env S1).bind fun m S2 => (getM l S2).bind fun xs S3 => (getM m S3).bind fun ys S4 =>
  .ok ⟨(xs.zip ys).map fun p => .tup [p.1, p.2], fun S => lGuard l xs S ∧ lGuard m ys S⟩ S4
theorem ls_keep {K : PySem.W.Frag} {H0 H : Hp} {ι : List Addr} {S : Sto} {α β : Type} {rel : Rl α β} {σ : St} {Q : β → Hp → Prop} {x : LS} {v : V} {k : List D → Sto → R α} (r : Rep K H ι S) (d : lsR K H0 H ι x v) (h : ends K W σ rel H ι Q ((getM x S).bind k)) :
    ∃ a xs vs, v = .ref a ∧ H a = some (.lst vs) ∧ ends K W σ rel H ι Q (k xs S) ∧ ∀ (H2 : Hp) (ι2 : List Addr) (S2 : Sto), Ext H ι H2 ι2 → Rep K H2 ι2 S2 → lGuard x xs S2 → ∃ us, SqL K H2 a us ∧ DVs K H2 ι2 xs us := by
  cases x with
  | tm xs =>
    obtain ⟨p, vs, rfl, _, hp, d, hn⟩ := d
    exact ⟨p, xs, vs, rfl, hp, h, fun H2 ι2 S2 e2 _ _ => ⟨vs, SqL.of (tmp_keep e2 hn hp).1, d.mono e2.toGr⟩⟩
  | rf d' =>
    cases d' with
    | ref n =>
      cases d with
      | ref hn =>
        simp only [getM] at h
        split at h
        · rename_i xs hs
          obtain ⟨vs, q1, q2⟩ := r.lst hs hn
          refine ⟨_, xs, vs, rfl, q1, h, fun H2 ι2 S2 e2 r2 hg => ?_⟩
          obtain ⟨us, z1, z2⟩ := r2.lst hg (e2.get hn)
          exact ⟨us, SqL.of z1, z2⟩
        · exact h.elim
    | _ => exact h.elim
theorem it_enum {K : PySem.W.Frag} {H0 : Hp} {ι0 : List Addr} {g : Sto → Prop} {a : Addr} {xs : List D} (h : ∀ (H : Hp) (ι : List Addr) (S : Sto), Ext H0 ι0 H ι → Rep K H ι S → g S → ∃ vs, SqL K H a vs ∧ DVs K H ι xs vs) :
    ItD K (Ite K a) H0 ι0 (xs.mapIdx fun i x => .tup [.int (i : Nat), x]) g := fun i H ι S e r hg => by
  obtain ⟨vs, q1, q2⟩ := h H ι S e r hg
  refine ⟨fun d hd => ?_, fun hl => ⟨vs, q1, by rw [← q2.length]; simpa using hl⟩⟩
  rw [List.getElem?_mapIdx] at hd
  cases w : xs[i]? with
  | none => rw [w] at hd; cases hd
  | some y =>
    rw [w] at hd
    cases hd
    obtain ⟨v, h1, h2⟩ := q2.get w
    refine ⟨⟨vs, v, q1, h1⟩, fun x H' ⟨T, z, hx, hT, hH, hz⟩ => ?_⟩
    subst hH hx
    have := hz vs q1
    rw [h1] at this
    cases this
    exact ⟨ι, Ext.junk _ hT, r.junk _ hT, .tup upd_same (.cons (.int _) (.cons (h2.mono (Ext.junk _ hT).toGr) .nil))⟩
theorem it_zip {K : PySem.W.Frag} {H0 : Hp} {ι0 : List Addr} {g g' : Sto → Prop} {a b : Addr} {xs ys : List D} (h : ∀ (H : Hp) (ι : List Addr) (S : Sto), Ext H0 ι0 H ι → Rep K H ι S → g S → ∃ vs, SqL K H a vs ∧ DVs K H ι xs vs)
    (h' : ∀ (H : Hp) (ι : List Addr) (S : Sto), Ext H0 ι0 H ι → Rep K H ι S → g' S → ∃ vs, SqL K H b vs ∧ DVs K H ι ys vs) : ItD K (Itz K a b) H0 ι0 ((xs.zip ys).map fun p => .tup [p.1, p.2]) (fun S => g S ∧ g' S) := fun i H ι S e r hg => by
  obtain ⟨vs, q1, q2⟩ := h H ι S e r hg.1
  obtain ⟨us, p1, p2⟩ := h' H ι S e r hg.2
  refine ⟨fun d hd => ?_, fun hl => ⟨vs, us, q1, p1, by rw [← q2.length, ← p2.length]; simp at hl; omega⟩⟩
  rw [List.getElem?_map] at hd
  cases w : (xs.zip ys)[i]? with
  | none => rw [w] at hd; cases hd
  | some y =>
    rw [w] at hd
    cases hd
    obtain ⟨w1, w2⟩ := List.getElem?_zip_eq_some.mp w
    obtain ⟨v, h1, h2⟩ := q2.get w1
    obtain ⟨u, h3, h4⟩ := p2.get w2
    refine ⟨⟨vs, us, v, u, q1, p1, h1, h3⟩, fun x H' ⟨T, z, z', hx, hT, hH, hz, hz'⟩ => ?_⟩
    subst hH hx
    have t1 := hz vs q1
    rw [h1] at t1
    cases t1
    have t2 := hz' us p1
    rw [h3] at t2
    cases t2
    exact ⟨ι, Ext.junk _ hT, r.junk _ hT, .tup upd_same (.cons (h2.mono (Ext.junk _ hT).toGr) (.cons (h4.mono (Ext.junk _ hT).toGr) .nil))⟩
variable {elts : List Expr} {kk : Nat} {tpos : Pos} {gl gm : Env → Sto → R LS}
theorem di_enum (c : Ctx X W k N vis loc gls) (hm : X.mg "enumerate" = none) (ha : PE X e (tLS X.K gl W)) (hg : gls.contains ("enumerate" : Str) = true := by decide +kernel) (hs : starEach [e] X.env = [(false, eval e X.env)] := by rfl) : PI X (.Tuple elts kk tpos) (.Call (.Name "enumerate" p) [e] [] pos) (tI X.K (iEn gl) W) := by
  refine PI.imp (pi_enum (c.hg "enumerate" (by simpa using hg)) hm (pa_cons ha pa_nil hs) hs) fun σ H R ⟨ι, env, S, r, en, h⟩ => ⟨ι, env, S, r, en, (ends.bind h).imp fun v H1 ⟨ι1, x, S1, _, e1, r1, d1, h1⟩ => ?_⟩
  obtain ⟨a, xs, vs, rfl, hp, h2, kp⟩ := ls_keep r1 d1 h1
  exact ⟨a, vs, rfl, SqL.of hp, h2 ι1 H1 _ (Ext.refl _ _) r1 (it_enum kp)⟩
theorem di_zip (c : Ctx X W k N vis loc gls) (hm : X.mg "zip" = none) (ha : PE X e (tLS X.K gl W)) (hb : PE X e2 (tLS X.K gm W)) (hg : gls.contains ("zip" : Str) = true := by decide +kernel) (hs : starEach [e, e2] X.env = (false, eval e X.env) :: starEach [e2] X.env := by rfl) (hpl : (backTo pos (starEach [e2] X.env)).any (·.1) = false := by rfl) (hs2 : starEach [e2] X.env = [(false, eval e2 X.env)] := by rfl) : PI X (.Tuple elts kk tpos) (.Call (.Name "zip" p) [e, e2] [] pos) (tI X.K (iZi gl gm) W) := by
  refine PI.imp (pi_zip (c.hg "zip" (by simpa using hg)) hm (pa_cons ha (pa_cons hb pa_nil hs2) hs) hs hpl) fun σ H R ⟨ι, env, S, r, en, h⟩ => ⟨ι, env, S, r, en, (ends.bind h).imp fun v H1 ⟨ι1, x, S1, _, e1, r1, d1, h1⟩ => ⟨ι1, env, S1, r1, en.mono e1.toGr, (ends.bind h1).imp fun v2 H2 ⟨ι2, y, S2, _, e2, r2, d2, h2⟩ => ?_⟩⟩
  obtain ⟨a, xs, vs, rfl, hp, h3, kp⟩ := ls_keep r2 (d1.mono e2) h2
  obtain ⟨b, ys, us, rfl, hp2, h4, kp2⟩ := ls_keep r2 d2 h3
  exact ⟨a, b, vs, us, rfl, SqL.of hp, SqL.of hp2, h4 ι2 H2 _ (Ext.refl _ _) r2 (it_zip kp kp2)⟩
end

/-! ### for -/
open Classical in
noncomputable def fFor (asg : Asg) (body : Env → Sto → RS) (g : Sto → Prop) : List D → Env → Sto → RS
  | [], env, S => if g S then .nx env S else .bad
  | x :: xs, env, S => if g S then (match asg x env with
    | none => .bad
    | some e1 => (match body e1 S with
      | .nx e2 S2 => fFor asg body g xs e2 S2
      | .ct e2 S2 => fFor asg body g xs e2 S2
      | .bk e2 S2 => .nx e2 S2
      | r => r)) else .bad
noncomputable def sFor (fi : Env → Sto → R Src) (asg : Asg) (body : Env → Sto → RS) : Env → Sto → RS := fun env S => (fi env S).seq env fun s S1 => fFor asg body s.g s.xs env S1
section
variable {X : Cx} {W : WX} {k : Nat} {N : List Str} {vis loc : List Nat} {gls : List Str} {tg e : Expr} {pos : Pos} {body : List Stmt} {fi : Env → Sto → R Src} {asg : Asg} {ts : List Nat} {fb : Env → Sto → RS}
theorem PS.imp {st : Stmt} {t t' : TS} (h : PS X st t) (q : ∀ D σ H, t' D σ H → t D σ H) : PS X st t' := ⟨fun pins s σ H D I hw => h.run pins s σ H D I (q D σ H hw)⟩
theorem PSs.imp {st : List Stmt} {t t' : TS} (h : PSs X st t) (q : ∀ D σ H, t' D σ H → t D σ H) : PSs X st t' := ⟨fun pins s σ H D I hw => h.run pins s σ H D I (q D σ H hw)⟩
theorem ds_for (c : Ctx X W k N vis loc gls) (hi : PI X tg e (tI X.K fi W)) (hg : PG X tg (gD X.K asg ts)) (hb : PSs X body (tS X.K fb W)) (hs : ∀ x, foldedSetIterable e X.env x = pure x := by intro _; rfl) : PS X (.For tg e body [] pos) (tS X.K (sFor fi asg fb) W) := by
  refine PS.imp (ps_for c.hp c.calm hi hg hb hs) fun D σ H ⟨ι, env, S, r, en, h⟩ => ⟨ι, env, S, r, en, (endsS.bind en h).imp fun J H1 ⟨ι1, s, S1, _, e1, r1, it, h1⟩ => ?_⟩
  obtain ⟨xs, g⟩ := s
  refine ⟨fun i m σ2 H2 => ∃ ι2 env2 S2, Ext H1 ι1 H2 ι2 ∧ Rep X.K H2 ι2 S2 ∧ EnvR X.K H2 ι2 env2 σ2 ∧ i ≤ xs.length ∧ m = xs.length - i ∧ endsS X.K W D H2 ι2 (fFor asg fb g (xs.drop i) env2 S2), ⟨xs.length, ι1, env, S1, Ext.refl _ _, r1, en.mono e1.toGr, Nat.zero_le _, rfl, by simpa using h1⟩, ?_⟩
  rintro i m σ2 H2 ⟨ι2, env2, S2, x2, r2, en2, hi, rfl, h2⟩
  cases q : xs[i]? with
  | none =>
    have hl : xs.length ≤ i := by simpa using q
    rw [List.drop_eq_nil_of_le hl] at h2
    simp only [fFor] at h2
    split at h2
    · rename_i hg
      exact .inl ⟨(it i H2 ι2 S2 x2 r2 hg).2 hl, h2 ι2 H2 σ2 (Ext.refl _ _) r2 en2⟩
    · exact h2.elim
  | some d =>
    have hl := (List.getElem?_eq_some_iff.mp q).1
    have hd : xs.drop i = d :: xs.drop (i + 1) := by rw [List.drop_eq_getElem_cons hl, (List.getElem?_eq_some_iff.mp q).2]
    rw [hd] at h2
    simp only [fFor] at h2
    split at h2
    · rename_i hg
      split at h2
      · exact h2.elim
      · rename_i env3 ha
        obtain ⟨go, yl⟩ := (it i H2 ι2 S2 x2 r2 hg).1 d q
        refine .inr ⟨go, fun σ' H' => ∃ ι' env' S', Ext H1 ι1 H' ι' ∧ Rep X.K H' ι' S' ∧ EnvR X.K H' ι' env' σ' ∧ endsS X.K W D H' ι' (fFor asg fb g (xs.drop (i + 1)) env' S'), fun σ' H' ⟨ι', env', S', a1, a2, a3, a4⟩ => ⟨xs.length - (i + 1), by omega, ι', env', S', a1, a2, a3, hl, rfl, a4⟩, fun x H3 hy => ?_⟩
        obtain ⟨ι3, e3, r3, dx⟩ := yl x H3 hy
        refine ⟨ι3, env2, d, env3, en2.mono e3.toGr, dx, ha, fun σ3 en3 _ => ⟨ι3, env3, S2, r3, en3, ?_⟩⟩
        cases w : fb env3 S2 with
        | nx e4 S4 => rw [w] at h2; exact fun ι4 H4 σ4 x4 r4 en4 => ⟨ι4, e4, S4, (x2.trans e3).trans x4, r4, en4, endsS.after (e3.trans x4) h2⟩
        | ct e4 S4 => rw [w] at h2; exact fun ι4 H4 σ4 x4 r4 en4 => ⟨ι4, e4, S4, (x2.trans e3).trans x4, r4, en4, endsS.after (e3.trans x4) h2⟩
        | bk e4 S4 => rw [w] at h2; exact fun ι4 H4 σ4 x4 r4 en4 => h2 ι4 H4 σ4 (e3.trans x4) r4 en4
        | rt d4 S4 => rw [w] at h2; exact fun ι4 H4 v4 x4 r4 en4 => h2 ι4 H4 v4 (e3.trans x4) r4 en4
        | err x4 e4 S4 => rw [w] at h2; exact fun ι4 H4 cls dd σ4 x4 r4 en4 => h2 ι4 H4 cls dd σ4 (e3.trans x4) r4 en4
        | bad => rw [w] at h2; exact h2
    · exact h2.elim
end

/-! ### while -/
def fWh (fc : Env → Sto → R Bool) (body : Env → Sto → RS) : Nat → Env → Sto → RS
  | 0, _, _ => .bad
  | n + 1, env, S => (fc env S).seq env fun b S1 => match b with
    | false => .nx env S1
    | true => (match body env S1 with
      | .nx e2 S2 => fWh fc body n e2 S2
      | .ct e2 S2 => fWh fc body n e2 S2
      | .bk e2 S2 => .nx e2 S2
      | r => r)
def sWh (n : Nat) (fc : Env → Sto → R Bool) (body : Env → Sto → RS) : Env → Sto → RS := fun env S => fWh fc body n env S
section
variable {X : Cx} {W : WX} {k : Nat} {N : List Str} {vis loc : List Nat} {gls : List Str} {a : Expr} {pos : Pos} {body : List Stmt} {fc : Env → Sto → R Bool} {fb : Env → Sto → RS}
theorem ds_while (c : Ctx X W k N vis loc gls) (n : Nat) (hc : PT X a (tBo X.K fc W)) (hb : PSs X body (tS X.K fb W)) : PS X (.While a body [] pos) (tS X.K (sWh n fc fb) W) := by
  refine PS.imp (ps_while c.hp hc hb) fun D σ H ⟨ι, env, S, r, en, h⟩ => ?_
  refine ⟨fun m σ2 H2 => ∃ ι2 env2 S2, Rep X.K H2 ι2 S2 ∧ EnvR X.K H2 ι2 env2 σ2 ∧ endsS X.K W D H2 ι2 (fWh fc fb m env2 S2), ⟨n, ι, env, S, r, en, h⟩, ?_⟩
  rintro m σ2 H2 ⟨ι2, env2, S2, r2, en2, h2⟩
  cases m with
  | zero => exact h2.elim
  | succ m =>
    refine ⟨ι2, env2, S2, r2, en2, (endsS.bind en2 h2).imp fun b H3 ⟨ι3, b', S3, _, e3, r3, eb, h3⟩ => ?_⟩
    obtain rfl : b' = b := eb
    cases b' with
    | false => exact iteF (h3 ι3 H3 σ2 (Ext.refl _ _) r3 (en2.mono e3.toGr))
    | true =>
      refine iteT ⟨fun σ' H' => ∃ ι' env' S', Rep X.K H' ι' S' ∧ EnvR X.K H' ι' env' σ' ∧ endsS X.K W D H' ι' (fWh fc fb m env' S'), fun σ' H' ⟨ι', env', S', a2, a3, a4⟩ => ⟨m, Nat.lt_succ_self m, ι', env', S', a2, a3, a4⟩, ι3, env2, S3, r3, en2.mono e3.toGr, ?_⟩
      simp only at h3
      cases w : fb env2 S3 with
      | nx e4 S4 => rw [w] at h3; exact fun ι4 H4 σ4 x4 r4 en4 => ⟨ι4, e4, S4, r4, en4, endsS.after x4 h3⟩
      | ct e4 S4 => rw [w] at h3; exact fun ι4 H4 σ4 x4 r4 en4 => ⟨ι4, e4, S4, r4, en4, endsS.after x4 h3⟩
      | bk e4 S4 => rw [w] at h3; exact fun ι4 H4 σ4 x4 r4 en4 => h3 ι4 H4 σ4 x4 r4 en4
      | rt d4 S4 => rw [w] at h3; exact fun ι4 H4 v4 x4 r4 en4 => h3 ι4 H4 v4 x4 r4 en4
      | err x4 e4 S4 => rw [w] at h3; exact fun ι4 H4 cls dd σ4 x4 r4 en4 => h3 ι4 H4 cls dd σ4 x4 r4 en4
      | bad => rw [w] at h3; exact h3
end
end DL

namespace DL
open PySem PySem.Spec PyProof.Rows L2

/-! ### comprehensions -/
def wipeE (env : Env) : List Nat → Env
  | [] => env
  | i :: r => (wipeE env r).set i none
def bT : Env → Sto → R Bool := fun _ S => .ok true S
/-- nothing is raised within -/
def R.calm {α : Type} (r : R α) : R α := match r with
  | .ok a S => .ok a S
  | _ => .bad
open Classical in
noncomputable def fComp (asg : Asg) (ft : Env → Sto → R Bool) (fe : Env → Sto → R D) (g : Sto → Prop) (env : Env) : List D → Sto → R (List D)
  | [], S => if g S then .ok [] S else .bad
  | x :: xs, S => if g S then (match asg x env with
    | none => .bad
    | some e1 => ((ft e1 S).calm).bind fun b S1 => match b with
      | true => ((fe e1 S1).calm).bind fun d S2 => (fComp asg ft fe g env xs S2).bind fun ds S3 => .ok (d :: ds) S3
      | false => fComp asg ft fe g env xs S1) else .bad
noncomputable def lComp (fi : Env → Sto → R Src) (asg : Asg) (vs : List Nat) (ft : Env → Sto → R Bool) (fe : Env → Sto → R D) : Env → Sto → R (List D) := fun env S =>
  (fi env S).bind fun s S1 => if small s.xs.length then fComp asg ft fe s.g (wipeE env vs) s.xs S1 else .bad
def W0 : WX := fun _ _ _ _ => False
theorem R.calm_ok {α : Type} {r : R α} {a : α} {S : Sto} (h : r.calm = .ok a S) : r = .ok a S := by
  cases r with
  | ok b S' => exact h
  | err _ _ => cases h
  | bad => cases h
theorem R.calm_bind {α β : Type} {r : R α} {k : α → Sto → R β} (h : r.calm.bind k ≠ .bad) : ∃ a S, r = .ok a S ∧ r.calm.bind k = k a S := by
  cases r with
  | ok b S' => exact ⟨b, S', rfl, rfl⟩
  | err _ _ => exact absurd rfl h
  | bad => exact absurd rfl h
theorem fComp_noerr {asg : Asg} {ft : Env → Sto → R Bool} {fe : Env → Sto → R D} {g : Sto → Prop} {env : Env} : ∀ {xs : List D} {S : Sto} {x : Exn} {S' : Sto}, fComp asg ft fe g env xs S ≠ .err x S'
  | [], S, x, S', h => by simp only [fComp] at h; split at h <;> cases h
  | y :: xs, S, x, S', h => by
    simp only [fComp] at h
    split at h
    · split at h
      · cases h
      · rename_i e1 _
        cases q : ft e1 S with
        | ok b S1 =>
          rw [q] at h
          cases b with
          | true =>
            simp only [R.calm, R.bind] at h
            cases q2 : fe e1 S1 with
            | ok d S2 =>
              rw [q2] at h
              simp only at h
              cases q3 : fComp asg ft fe g env xs S2 with
              | ok ds S3 => rw [q3] at h; cases h
              | err x2 S3 => exact fComp_noerr q3
              | bad => rw [q3] at h; cases h
            | err _ _ => rw [q2] at h; cases h
            | bad => rw [q2] at h; cases h
          | false => exact fComp_noerr h
        | err _ _ => rw [q] at h; cases h
        | bad => rw [q] at h; cases h
    · cases h
theorem EnvR.wipe {K : PySem.W.Frag} {H : Hp} {ι : List Addr} {env : Env} {σ : St} (e : EnvR K H ι env σ) : ∀ vs : List Nat, EnvR K H ι (wipeE env vs) (wipe σ vs)
  | [] => e
  | i :: r => (EnvR.wipe e r).unset i none
theorem wipe_chg {σ σ' : St} {vs : List Nat} (hl : σ'.length = σ.length) (h : ∀ j, j ∉ vs → σ'[j]? = σ[j]?) : wipe σ' vs = wipe σ vs := by
  have at_ : ∀ (τ : St) (us : List Nat) (j : Nat), (wipe τ us)[j]? = if j ∈ us then (if j < τ.length then some none else none) else τ[j]? := by
    intro τ us
    induction us with
    | nil => intro j; simp [wipe]
    | cons u us ih =>
      intro j
      show ((wipe τ us).set u none)[j]? = _
      rw [List.getElem?_set, wipe_length, ih]
      by_cases hj : u = j
      · subst hj
        by_cases hu : u < τ.length <;> simp [hu]
      · have hj' : ¬ j = u := fun z => hj z.symm
        simp [hj, hj']
  refine List.ext_getElem? fun j => ?_
  rw [at_, at_, hl]
  by_cases hj : j ∈ vs
  · rw [if_pos hj, if_pos hj]
  · rw [if_neg hj, if_neg hj, h j hj]
/-- an object that we do not know is written -/
theorem Rep.other {K : PySem.W.Frag} {H : Hp} {ι : List Addr} {S : Sto} (r : Rep K H ι S) {p : Addr} {vs : List V} (hn : p ∉ ι) (hp : H p = some (.lst vs)) (u : HO) : Gr H ι (upd H p u) ι ∧ Rep K (upd H p u) ι S := by
  have gr : Gr H ι (upd H p u) ι := ⟨⟨[], by simp⟩, fun b o so h => by
    rw [upd_ne]
    · exact h
    · rintro rfl
      rw [hp] at h; cases h; cases so⟩
  refine ⟨gr, r.len, r.nd, fun n o a h1 h2 => ?_⟩
  obtain ⟨v, q1, q2⟩ := r.ob n o a h1 h2
  have ne : a ≠ p := by
    rintro rfl
    exact hn (List.mem_of_getElem? h2)
  exact ⟨v, by rw [upd_ne ne]; exact q1, q2.mono gr⟩
theorem R.map_err {α β : Type} {r : R α} {k : α → Sto → R β} (h : ∀ x S, r ≠ .err x S) (hk : ∀ a S x S', k a S ≠ .err x S') : ∀ x S, r.bind k ≠ .err x S := fun x S q => by
  cases r with
  | ok a S1 => exact hk _ _ _ _ q
  | err x S1 => exact h _ _ rfl
  | bad => cases q
section
variable {K : PySem.W.Frag} {W : WX} {fi : Env → Sto → R Src} {asg : Asg} {ts vs : List Nat} {ft : Env → Sto → R Bool} {fe : Env → Sto → R D}
theorem lc_imp (hts : ∀ j, j ∈ ts → j ∈ vs) {σ : St} {H : Hp} {Q : VK} (h : tTm K (lComp fi asg vs ft fe) W σ H Q) : tLc (tI K fi W) (gD K asg ts) (tBo K ft W0) (tD K fe W0) vs σ H Q := by
  obtain ⟨ι, env, S, r, en, h⟩ := h
  refine ⟨ι, env, S, r, en, (ends.bind (rel := itR K) h).imp fun J H1 ⟨ι1, s, S1, _, e1, r1, it, h1⟩ D0 hD => ?_⟩
  obtain ⟨xs, g⟩ := s
  simp only at h1
  split at h1
  case isFalse => exact h1.elim
  rename_i hz
  have hz := of_decide_eq_true hz
  have it : ItD K J H1 ι1 xs g := it
  have en1 := en.mono e1.toGr
  -- from (H1, ι1) on; the list at D0 holds acc
  let Iv : Nat → Hp → List Addr → Sto → List D → List V → Prop := fun i H2 ι2 S2 acc va => Ext H1 ι1 H2 ι2 ∧ D0 ∉ ι2 ∧ Rep K H2 ι2 S2 ∧ H2 D0 = some (.lst va) ∧ DVs K H2 ι2 acc va ∧ acc.length ≤ i ∧
    ends K W σ (tmpR K H) H1 ι1 Q ((fComp asg ft fe g (wipeE env vs) (xs.drop i) S2).bind fun ds S3 => .ok (acc ++ ds) S3)
  refine ⟨fun i m H2 => i ≤ xs.length ∧ m = xs.length - i ∧ ∃ ι2 S2 acc va, Iv i H2 ι2 S2 acc va, ⟨xs.length, Nat.zero_le _, rfl, ι1, S1, [], [], Ext.junk _ hD, r1.free hD, r1.junk _ hD, upd_same, .nil, Nat.le_refl _, ?_⟩, ?_⟩
  · rw [List.drop_zero]
    cases q : fComp asg ft fe g (wipeE env vs) xs S1 with
    | ok a S2 => rw [q] at h1; simpa [R.bind] using h1
    | err x S2 => exact absurd q (fComp_noerr)
    | bad => rw [q] at h1; exact h1
  rintro i m H2 ⟨hi, rfl, ι2, S2, acc, va, x2, hn, r2, hv, da, hl, h2⟩
  cases q : xs[i]? with
  | none =>
    have hl2 : xs.length ≤ i := by simpa using q
    rw [List.drop_eq_nil_of_le hl2] at h2
    simp only [fComp] at h2
    split at h2
    · rename_i hg
      refine .inl ⟨(it i H2 ι2 S2 x2 r2 hg).2 hl2, ?_⟩
      refine h2 ι2 H2 _ x2 r2 ⟨D0, va, rfl, e1.was hD, hv, by rw [List.append_nil]; exact da, hn⟩
    · exact h2.elim
  | some d =>
    have hlt := (List.getElem?_eq_some_iff.mp q).1
    have hd : xs.drop i = d :: xs.drop (i + 1) := by rw [List.drop_eq_getElem_cons hlt, (List.getElem?_eq_some_iff.mp q).2]
    rw [hd] at h2
    simp only [fComp] at h2
    split at h2
    case isFalse => exact h2.elim
    rename_i hg
    split at h2
    · exact h2.elim
    rename_i env3 ha
    obtain ⟨go, yl⟩ := (it i H2 ι2 S2 x2 r2 hg).1 d q
    refine .inr ⟨go, fun H' => ∃ ι' S' acc' va', Iv (i + 1) H' ι' S' acc' va', fun H' h' => ⟨xs.length - (i + 1), by omega, hlt, rfl, h'⟩, fun x H3 hy => ?_⟩
    obtain ⟨ι3, e3, r3, dx⟩ := yl x H3 hy
    obtain ⟨hv3, hn3⟩ := tmp_keep e3 hn hv
    refine ⟨ι3, wipeE env vs, d, env3, ((en1.mono x2.toGr).mono e3.toGr).wipe vs, dx, ha, fun σ3 en3 cg => ⟨?_, ?_⟩⟩
    · rw [wipe_chg (σ := wipe σ vs) cg.1 fun j hj => cg.2 j fun z => hj (hts j z)]
      exact wipe_chg (wipe_length σ vs) fun j hj => by
        have : ∀ us : List Nat, j ∉ us → (wipe σ us)[j]? = σ[j]? := by
          intro us
          induction us with
          | nil => intro _; rfl
          | cons u us ih =>
            intro hu
            simp only [List.mem_cons, not_or] at hu
            show ((wipe σ us).set u none)[j]? = _
            rw [List.getElem?_set_ne (fun z => hu.1 z.symm)]
            exact ih hu.2
        exact this vs hj
    · -- the test
      have ne : (((ft env3 S2).calm).bind fun b S1 => match b with
          | true => ((fe env3 S1).calm).bind fun d S2 => (fComp asg ft fe g (wipeE env vs) (xs.drop (i + 1)) S2).bind fun ds S3 => .ok (d :: ds) S3
          | false => fComp asg ft fe g (wipeE env vs) (xs.drop (i + 1)) S1) ≠ .bad := fun z => by rw [z] at h2; exact h2
      obtain ⟨b, S3, q3, z3⟩ := R.calm_bind ne
      rw [z3] at h2 ne
      refine ⟨ι3, env3, S2, r3, en3, ?_⟩
      rw [q3]
      intro ι4 H4 b' e4 r4 eb
      obtain rfl : b = b' := eb
      obtain ⟨hv4, hn4⟩ := tmp_keep e4 hn3 hv3
      cases b with
      | false => exact iteF ⟨ι4, S3, acc, va, (x2.trans e3).trans e4, hn4, r4, hv4, (da.mono e3.toGr).mono e4.toGr, by omega, h2⟩
      | true =>
        refine iteT ?_
        simp only at ne
        obtain ⟨y, S4, q4, z4⟩ := R.calm_bind ne
        simp only at h2
        rw [z4] at h2
        refine ⟨ι4, env3, S3, r4, en3.mono e4.toGr, ?_⟩
        rw [q4]
        intro ι5 H5 v5 e5 r5 d5
        obtain ⟨hv5, hn5⟩ := tmp_keep e5 hn4 hv4
        have da5 := ((da.mono e3.toGr).mono e4.toGr).mono e5.toGr
        refine ⟨va, hv5, by rw [← da5.length]; omega, ?_⟩
        obtain ⟨g6, r6⟩ := r5.other hn5 hv5 (.lst (va ++ [v5]))
        have x5 := (((x2.trans e3).trans e4).trans e5)
        have x6 : Ext H1 ι1 (upd H5 D0 (.lst (va ++ [v5]))) ι5 := by
          have ne0 : ∀ {b o}, H1 b = some o → b ≠ D0 := fun h => ne_of_none h hD
          exact ⟨⟨x5.pre, fun b o so hb => by rw [upd_ne (ne0 hb)]; exact x5.kp b o so hb⟩, fun b o hb h => by rw [upd_ne (ne0 h)]; exact x5.fr b o hb h,
            fun b hb => by
              by_cases z : b = D0
              · subst z; rw [upd_same]; simp
              · rw [upd_ne z]; exact x5.dom b hb, x5.nw⟩
        refine ⟨ι5, S4, acc ++ [y], va ++ [v5], x6, hn5, r6, upd_same, (da5.append (.cons d5 .nil)).mono g6, by simp; omega, ?_⟩
        have eq : (((fComp asg ft fe g (wipeE env vs) (xs.drop (i + 1)) S4).bind fun ds S3 => .ok (y :: ds) S3).bind fun ds S3 => R.ok (acc ++ ds) S3) = (fComp asg ft fe g (wipeE env vs) (xs.drop (i + 1)) S4).bind fun ds S3 => .ok (acc ++ [y] ++ ds) S3 := by
          cases fComp asg ft fe g (wipeE env vs) (xs.drop (i + 1)) S4 <;> simp [R.bind]
        rw [← eq]
        exact h2
end
section
variable {X : Cx} {W : WX} {k : Nat} {N : List Str} {vis loc vis2 loc2 : List Nat} {gls gls2 : List Str} {elt tg iter : Expr} {ifs : List Expr} {scope : Scope} {own : List (Str × Nat)} {pos : Pos} {fi : Env → Sto → R Src} {asg : Asg} {ts : List Nat} {ft : Env → Sto → R Bool} {fe : Env → Sto → R D}
/-- the facts within a comprehension's block -/
def scOk (N : List Str) (sc : Scope) (vis loc : List Nat) (gls : List Str) : Bool :=
  (vis.all fun i => match N[i]? with | some x => (match sc.names.lookup x with | some .local => true | some .cell => true | some .free => true | _ => false) | none => true) &&
  (loc.all fun i => match N[i]? with | some x => (match sc.names.lookup x with | some .local => true | some .cell => true | _ => false) | none => true) &&
  (gls.all fun x => match sc.names.lookup x with | some .globalImplicit => true | _ => false)
theorem lookup_rel {sc : Scope} {env : PySem.Env} {x : Str} : (relabel sc env).names.lookup x = (sc.names.lookup x).map fun k => if (k == NameKind.free && env.scope.kind == .function && env.kindOf x == some .cell) then .cell else k := by
  show (sc.names.map _).lookup x = _
  induction sc.names with
  | nil => rfl
  | cons a r ih =>
    obtain ⟨n, k⟩ := a
    rw [List.map_cons]
    by_cases hx : x = n
    · subst hx
      simp only [List.lookup_cons, beq_self_eq_true, Option.map_some]
      split <;> simp
    · have hx' : (x == n) = false := by simpa using hx
      have : (if (k == NameKind.free && env.scope.kind == .function && env.kindOf n == some .cell) = true then (n, NameKind.cell) else (n, k)).1 = n := by split <;> rfl
      simp only [List.lookup_cons, hx']
      split <;> (simp only [List.lookup_cons, hx']; exact ih)
theorem scOk_vis {sc : Scope} {env : PySem.Env} (h : scOk N sc vis loc gls = true) : ∀ i ∈ vis, ∀ x, N[i]? = some x → Vis (relabel sc env) x := fun i hi x hx => by
  unfold scOk at h
  simp only [Bool.and_eq_true, List.all_eq_true] at h
  have q := h.1.1 i hi
  rw [hx] at q
  unfold Vis
  rw [lookup_rel]
  simp only at q
  cases w : sc.names.lookup x with
  | none => rw [w] at q; simp at q
  | some kd =>
    rw [w] at q
    cases kd <;> first
      | (cases q; done)
      | exact .inl rfl
      | exact .inr (.inl rfl)
      | (show Option.map _ _ = _ ∨ Option.map _ _ = _ ∨ Option.map _ _ = _
         simp only [Option.map_some]
         split
         · exact .inr (.inl rfl)
         · exact .inr (.inr rfl))
theorem scOk_loc {sc : Scope} {env : PySem.Env} (h : scOk N sc vis loc gls = true) : ∀ i ∈ loc, ∀ x, N[i]? = some x → L2.Loc (relabel sc env) x ∧ ((sc.names.lookup x == some NameKind.cell) = true ∨ (relabel sc env).names.lookup x = some .local) := fun i hi x hx => by
  unfold scOk at h
  simp only [Bool.and_eq_true, List.all_eq_true] at h
  have q := h.1.2 i hi
  rw [hx] at q
  unfold L2.Loc
  rw [lookup_rel]
  simp only at q
  cases w : sc.names.lookup x with
  | none => rw [w] at q; simp at q
  | some kd =>
    rw [w] at q
    cases kd <;> first
      | (cases q; done)
      | exact ⟨.inl rfl, .inr rfl⟩
      | exact ⟨.inr rfl, .inl rfl⟩
theorem scOk_gls {sc : Scope} {env : PySem.Env} (h : scOk N sc vis loc gls = true) : ∀ x ∈ gls, (relabel sc env).names.lookup x = some .globalImplicit := fun x hx => by
  unfold scOk at h
  simp only [Bool.and_eq_true, List.all_eq_true] at h
  have q := h.2 x hx
  rw [lookup_rel]
  cases w : sc.names.lookup x with
  | none => rw [w] at q; simp at q
  | some kd =>
    rw [w] at q
    cases kd <;> first
      | (cases q; done)
      | rfl
/-- the same program around -/
structure Sm (X X' : Cx) : Prop where
  prog : X'.prog = X.prog
  w : X'.w = X.w
  K : X'.K = X.K
  mg : X'.mg = X.mg
  base : X'.base = X.base
theorem Ctx.blk (c : Ctx X W k N vis loc gls) (h : scOk N scope vis2 loc2 gls2 = true) (s : Shared) (H : Hp) (C : Addr) (cl : List (Str × Addr)) (fp : List Addr) : Ctx (X.blk s H scope (compEnvC scope cl C X.env) fp) W0 k N vis2 loc2 gls2 where
  hN := c.hN
  nd := c.nd
  calm := c.calm
  tk := fun u s' ⟨_, _, _, _, _, _, _, _, _, _, _, _, _, _, _, _, z⟩ => z
  hp := PassesOwn.never
  hr := c.hr
  hv := scOk_vis h
  hl := fun i hi x hx => scOk_loc h i hi x hx
  hg := scOk_gls h
theorem dts_nil : PTs X [] (tBo X.K bT W) := ⟨fun pins s σ H Q I ⟨ι, env, S, r, en, h⟩ => pts_nil.run pins s σ H Q I (h ι H true (Ext.refl _ _) r rfl)⟩
theorem dts_one {e : Expr} (h : PT X e (tBo X.K ft W)) : PTs X [e] (tBo X.K ft W) := pts_one h
/-- [elt for tg in iter if ..]: a temporary list -/
theorem dl_comp (c : Ctx X W k N vis loc gls) (vis2 loc2 : List Nat) (gls2 : List Str) (own : List (Str × Nat)) (hi : PI X tg iter (tI X.K fi W)) (ok : BlkOk N X.env.scope scope own) (hsc : scOk N scope vis2 loc2 gls2 = true) (hts : (ts.all fun j => (own.map (·.2)).contains j) = true)
    (hg : ∀ X' : Cx, Sm X X' → Ctx X' W0 k N vis2 loc2 gls2 → PG X' tg (gD X'.K asg ts)) (ht : ∀ X' : Cx, Sm X X' → Ctx X' W0 k N vis2 loc2 gls2 → PTs X' ifs (tBo X'.K ft W0)) (he : ∀ X' : Cx, Sm X X' → Ctx X' W0 k N vis2 loc2 gls2 → PE X' elt (tD X'.K fe W0))
    (hs : ∀ x, foldedSetIterable iter X.env x = pure x := by intro _; rfl) : PE X (.ListComp elt [⟨tg, iter, ifs, 0⟩] scope pos) (tTm X.K (lComp fi asg (own.map (·.2)) ft fe) W) := by
  refine PE.imp (pe_lc (g := gD X.K asg ts) (tt := tBo X.K ft W0) (te := tD X.K fe W0) c.calm (by rw [c.hN]; exact c.nd) hi (own := own) (by rw [c.hN]; exact ok) (fun s H C cl fp => hg (X.blk s H scope (compEnvC scope cl C X.env) fp) ⟨rfl, rfl, rfl, rfl, rfl⟩ (c.blk hsc s H C cl fp)) (fun s H C cl fp => ht (X.blk s H scope (compEnvC scope cl C X.env) fp) ⟨rfl, rfl, rfl, rfl, rfl⟩ (c.blk hsc s H C cl fp)) (fun s H C cl fp => he (X.blk s H scope (compEnvC scope cl C X.env) fp) ⟨rfl, rfl, rfl, rfl, rfl⟩ (c.blk hsc s H C cl fp)) hs) fun σ H Q h => ?_
  exact lc_imp (fun j hj => by simpa using List.all_eq_true.mp hts j hj) h
end
end DL

namespace DL
open PySem PySem.Spec PyProof.Rows L2

/-! ### statements -/
def sNx : Env → Sto → RS := fun env S => .nx env S
def sBk : Env → Sto → RS := fun env S => .bk env S
def sCt : Env → Sto → RS := fun env S => .ct env S
def sNever : Env → Sto → RS := fun _ _ => .bad
def sSeq (f g : Env → Sto → RS) : Env → Sto → RS := fun env S => (f env S).bind g
def sIf (fc : Env → Sto → R Bool) (f g : Env → Sto → RS) : Env → Sto → RS := fun env S => (fc env S).seq env fun b S1 => match b with
  | true => f env S1
  | false => g env S1
def sRet (fe : Env → Sto → R D) : Env → Sto → RS := fun env S => (fe env S).seq env fun d S1 => .rt d S1
def sRetN : Env → Sto → RS := fun _ S => .rt .non S
def sExp (fe : Env → Sto → R D) : Env → Sto → RS := fun env S => (fe env S).seq env fun _ S1 => .nx env S1
def sSet (i : Nat) (fe : Env → Sto → R D) : Env → Sto → RS := fun env S => (fe env S).seq env fun d S1 => .nx (env.set i (some d)) S1
/-- name = a new list -/
def sNew (i : Nat) (fl : Env → Sto → R (List D)) : Env → Sto → RS := fun env S => (fl env S).seq env fun xs S1 => .nx (env.set i (some (.ref S1.length))) (S1 ++ [.lst xs])
def sAsg (a : Asg) (fe : Env → Sto → R D) : Env → Sto → RS := fun env S => (fe env S).seq env fun d S1 => match a d env with
  | some e => .nx e S1
  | none => .bad
def sPar (i j : Nat) (fa : Env → Sto → R (List D)) : Env → Sto → RS := fun env S => (fa env S).seq env fun ds S1 => match ds with
  | [d, e] => .nx ((env.set i (some d)).set j (some e)) S1
  | _ => .bad
abbrev Op2 := D → D → Option D
def iAdd : Op2 := fun x y => match x, y with
  | .int i, .int j => some (.int (i + j))
  | _, _ => none
def iSub : Op2 := fun x y => match x, y with
  | .int i, .int j => some (.int (i - j))
  | _, _ => none
def sAug (i : Nat) (op : Op2) (fe : Env → Sto → R D) : Env → Sto → RS := fun env S => match env[i]? with
  | some (some x) => (fe env S).seq env fun y S1 => (match op x y with
    | some z => .nx (env.set i (some z)) S1
    | none => .bad)
  | _ => .bad
/-- xs[i] = v, or d[k] = v -/
def putIt (o i v : D) (S : Sto) : Option Sto := match o with
  | .ref n => (match S[n]? with
    | some (.lst xs) => (match i with
      | .int k => (match ixN xs.length k with
        | some j => some (S.set n (.lst (xs.set j v)))
        | none => none)
      | _ => none)
    | some (.dK kvs) => (match keyOf i with
      | some k => if small (kvs.length + 1) then some (S.set n (.dK (kPut kvs k v))) else none
      | none => none)
    | some (.dT kvs) => (match tkeyOf i with
      | some k => if small (kvs.length + 1) then some (S.set n (.dT (kPut kvs k v))) else none
      | none => none)
    | _ => none)
  | _ => none
def sPut (fo fi fv : Env → Sto → R D) : Env → Sto → RS := fun env S => (fv env S).seq env fun v S1 => (fo env S1).seq env fun o S2 => (fi env S2).seq env fun i S3 => match putIt o i v S3 with
  | some S4 => .nx env S4
  | none => .bad
/-- x[i] of a list or a dict, as dIx, for o[i] op= v -/
def getIt (o i : D) (S : Sto) : Option D := match o with
  | .ref n => (match S[n]? with
    | some (.lst xs) => (match i with
      | .int k => L2.atI xs k
      | _ => none)
    | _ => (match dLook n i S with
      | some (some d) => some d
      | _ => none))
  | _ => none
def sAugI (op : Op2) (fo fi fv : Env → Sto → R D) : Env → Sto → RS := fun env S => (fo env S).seq env fun o S1 => (fi env S1).seq env fun i S2 => match getIt o i S2 with
  | some x => (fv env S2).seq env fun y S3 => (match op x y with
    | some z => (match putIt o i z S3 with
      | some S4 => .nx env S4
      | none => .bad)
    | none => .bad)
  | none => .bad
def putN (f : Str) (v : D) : List (Str × D) → List (Str × D)
  | [] => [(f, v)]
  | (g, x) :: r => if g = f then (g, v) :: r else (g, x) :: putN f v r
/-- o.f = v of an instance of C -/
def putF' (C : Addr) (f : Str) (o v : D) (S : Sto) : Option Sto := match o with
  | .ref n => (match S[n]? with
    | some (.ins C' fs) => if C' = C ∧ fs.length < 1000 then some (S.set n (.ins C (putN f v fs))) else none
    | _ => none)
  | _ => none
def getF' (C : Addr) (f : Str) (o : D) (S : Sto) : Option D := match o with
  | .ref n => (match S[n]? with
    | some (.ins C' fs) => if C' = C then fs.lookup f else none
    | _ => none)
  | _ => none
def sFldS (C : Addr) (f : Str) (fo fv : Env → Sto → R D) : Env → Sto → RS := fun env S => (fv env S).seq env fun v S1 => (fo env S1).seq env fun o S2 => match putF' C f o v S2 with
  | some S3 => .nx env S3
  | none => .bad
def sFldA (C : Addr) (f : Str) (op : Op2) (fo fv : Env → Sto → R D) : Env → Sto → RS := fun env S => (fo env S).seq env fun o S1 => match getF' C f o S1 with
  | some x => (fv env S1).seq env fun y S2 => (match op x y with
    | some z => (match putF' C f o z S2 with
      | some S3 => .nx env S3
      | none => .bad)
    | none => .bad)
  | none => .bad
def eFld (C : Addr) (f : Str) (fo : Env → Sto → R D) : Env → Sto → R D := fun env S => (fo env S).bind fun o S1 => R.ofO (getF' C f o S1) S1
theorem DP.lookup {K : PySem.W.Frag} {H : Hp} {ι : List Addr} {f : Str} {d : D} : ∀ {fs : List (Str × D)} {gs : List (Str × V)}, DP K H ι fs gs → fs.lookup f = some d → ∃ v, gs.lookup f = some v ∧ DV K H ι d v
  | _, _, .nil, h => by cases h
  | _, _, @DP.cons _ _ _ _ g x v ds vs r t, h => by
    rw [List.lookup_cons] at h ⊢
    cases q : f == g with
    | true => rw [q] at h; cases h; exact ⟨v, rfl, r⟩
    | false => rw [q] at h; exact DP.lookup t h
theorem DP.putF {K : PySem.W.Frag} {H : Hp} {ι : List Addr} {f : Str} {d : D} {v : V} (r : DV K H ι d v) : ∀ {fs : List (Str × D)} {gs : List (Str × V)}, DP K H ι fs gs → DP K H ι (putN f d fs) (L2.putF f v gs)
  | _, _, .nil => .cons r .nil
  | _, _, @DP.cons _ _ _ _ g x w ds vs q t => by
    show DP K H ι (if g = f then _ else _) (if g = f then _ else _)
    by_cases e : g = f
    · rw [if_pos e, if_pos e]; exact .cons r t
    · rw [if_neg e, if_neg e]; exact .cons q (DP.putF r t)
section
variable {X : Cx} {W : WX} {k : Nat} {N : List Str} {vis loc : List Nat} {gls : List Str} {e o i value : Expr} {es : List Expr} {st : Stmt} {rest sa sb : List Stmt} {pos pos' tpos : Pos} {fe fo fi fv : Env → Sto → R D} {fa : Env → Sto → R (List D)} {fc : Env → Sto → R Bool} {f g : Env → Sto → RS} {asg : Asg} {ts : List Nat} {fl : Env → Sto → R (List D)}
theorem dss_nil : PSs X [] (tS X.K sNx W) := PSs.imp pss_nil fun D σ H ⟨ι, env, S, r, en, h⟩ => h ι H σ (Ext.refl _ _) r en
theorem ds_pass : PS X (.Pass pos) (tS X.K sNx W) := PS.imp ps_pass fun D σ H ⟨ι, env, S, r, en, h⟩ => h ι H σ (Ext.refl _ _) r en
theorem ds_doc {x j p} : PS X (.Expr (.Constant (.str x) j pos) p) (tS X.K sNx W) := PS.imp ps_doc fun D σ H ⟨ι, env, S, r, en, h⟩ => h ι H σ (Ext.refl _ _) r en
theorem ds_break : PS X (.Break pos) (tS X.K sBk W) := PS.imp ps_break fun D σ H ⟨ι, env, S, r, en, h⟩ => h ι H σ (Ext.refl _ _) r en
theorem ds_continue : PS X (.Continue pos) (tS X.K sCt W) := PS.imp ps_continue fun D σ H ⟨ι, env, S, r, en, h⟩ => h ι H σ (Ext.refl _ _) r en
theorem ds_never : PS X st (tS X.K sNever W) := PS.imp ps_never fun D σ H ⟨ι, env, S, r, en, h⟩ => h
theorem dss_one (h : PS X st (tS X.K f W)) : PSs X [st] (tS X.K f W) := pss_one h
theorem dss_cons (h1 : PS X st (tS X.K f W)) (h2 : PSs X rest (tS X.K g W)) : PSs X (st :: rest) (tS X.K (sSeq f g) W) := by
  refine PSs.imp (pss_cons h1 h2) fun D σ H ⟨ι, env, S, r, en, h⟩ => ⟨ι, env, S, r, en, ?_⟩
  have h : endsS X.K W D H ι ((f env S).bind g) := h
  cases q : f env S with
  | nx e S1 => rw [q] at h; exact fun ι1 H1 σ1 e1 r1 en1 => ⟨ι1, e, S1, r1, en1, endsS.after e1 h⟩
  | rt d S1 => rw [q] at h; exact h
  | bk e S1 => rw [q] at h; exact h
  | ct e S1 => rw [q] at h; exact h
  | err x e S1 => rw [q] at h; exact h
  | bad => rw [q] at h; exact h
theorem ds_if (hc : PT X e (tBo X.K fc W)) (ha : PSs X sa (tS X.K f W)) (hb : PSs X sb (tS X.K g W)) : PS X (.If e sa sb pos) (tS X.K (sIf fc f g) W) := by
  refine PS.imp (ps_if hc ha hb) fun D σ H ⟨ι, env, S, r, en, h⟩ => ⟨ι, env, S, r, en, (endsS.bind en h).imp fun v H1 ⟨ι1, b, S1, _, e1, r1, eb, h1⟩ => ?_⟩
  obtain rfl : b = v := eb
  cases b with
  | true => exact iteT ⟨ι1, env, S1, r1, en.mono e1.toGr, h1⟩
  | false => exact iteF ⟨ι1, env, S1, r1, en.mono e1.toGr, h1⟩
theorem ds_ret (he : PE X e (tD X.K fe W)) : PS X (.Return (some e) pos) (tS X.K (sRet fe) W) :=
  PS.imp (ps_ret he) fun D σ H ⟨ι, env, S, r, en, h⟩ => ⟨ι, env, S, r, en, (endsS.bind en h).imp fun v H1 ⟨ι1, x, S1, _, e1, r1, d1, h1⟩ => h1 ι1 H1 v (Ext.refl _ _) r1 d1⟩
theorem ds_retN : PS X (.Return none pos) (tS X.K sRetN W) := PS.imp ps_retN fun D σ H ⟨ι, env, S, r, en, h⟩ => h ι H .non (Ext.refl _ _) r .non
theorem ds_expr (he : PE X e (tD X.K fe W)) (hs : swapsWith e none pos.line X.env = pure false := by rfl) : PS X (.Expr e pos) (tS X.K (sExp fe) W) :=
  PS.imp (ps_expr he hs) fun D σ H ⟨ι, env, S, r, en, h⟩ => ⟨ι, env, S, r, en, (endsS.bind en h).imp fun v H1 ⟨ι1, x, S1, _, e1, r1, d1, h1⟩ => h1 ι1 H1 σ (Ext.refl _ _) r1 (en.mono e1.toGr)⟩
theorem ds_set0 (c : Ctx0 X W N vis loc gls) (j : Nat) {x : Str} (he : PE X e (tD X.K fe W)) (hN : N[j]? = some x := by rfl) (hl : loc.contains j = true := by rfl) (hs : swapsWith e (some (.Name x pos')) pos.line X.env = pure false := by rfl) : PS X (.Assign [.Name x pos'] e pos) (tS X.K (sSet j fe) W) := by
  obtain ⟨h1, h2⟩ := c.hl j (by simpa using hl) x hN
  refine PS.imp (ps_set (i := j) (by rw [c.hN]; exact c.nd) (by rw [c.hN]; exact hN) h1 he hs h2) fun D σ H ⟨ι, env, S, r, en, h⟩ => ⟨ι, env, S, r, en, (endsS.bind en h).imp fun v H1 ⟨ι1, x, S1, _, e1, r1, d1, h1⟩ => ?_⟩
  exact h1 ι1 H1 _ (Ext.refl _ _) r1 ((en.mono e1.toGr).set d1 j)
theorem ds_set (c : Ctx X W k N vis loc gls) (j : Nat) {x : Str} (he : PE X e (tD X.K fe W)) (hN : N[j]? = some x := by rfl) (hl : loc.contains j = true := by rfl) (hs : swapsWith e (some (.Name x pos')) pos.line X.env = pure false := by rfl) : PS X (.Assign [.Name x pos'] e pos) (tS X.K (sSet j fe) W) := ds_set0 c.toCtx0 j he hN hl hs
theorem endsS.bind0 {α β : Type} {K : PySem.W.Frag} {W : WX} {σ : St} {rel : Rl α β} {D : Ends} {H : Hp} {ι : List Addr} {env : Env} {r : R α} {k : α → Sto → RS} (en : EnvR K H ι env σ) (h : endsS K W D H ι (r.seq env k)) :
    ends K W σ rel H ι (fun y H1 => ∃ ι1 x S1, r = .ok x S1 ∧ Ext H ι H1 ι1 ∧ Rep K H1 ι1 S1 ∧ rel H1 ι1 x y ∧ endsS K W D H ι (k x S1)) r := by
  cases r with
  | ok a S => exact fun ι' H' b e p d => ⟨ι', a, S, rfl, e, p, d, h⟩
  | err x S => exact fun ι' H' cls dd e p d => h ι' H' cls dd σ e p (en.mono e.toGr) d
  | bad => exact h
theorem ds_new0 (c : Ctx0 X W N vis loc gls) (j : Nat) {x : Str} (he : PE X e (tTm X.K fl W)) (hN : N[j]? = some x := by rfl) (hl : loc.contains j = true := by rfl) (hs : swapsWith e (some (.Name x pos')) pos.line X.env = pure false := by rfl) : PS X (.Assign [.Name x pos'] e pos) (tS X.K (sNew j fl) W) := by
  obtain ⟨h1, h2⟩ := c.hl j (by simpa using hl) x hN
  refine PS.imp (ps_set (i := j) (by rw [c.hN]; exact c.nd) (by rw [c.hN]; exact hN) h1 he hs h2) fun D σ H ⟨ι, env, S, r, en, h⟩ => ⟨ι, env, S, r, en, (endsS.bind0 en h).imp fun v H1 ⟨ι1, xs, S1, _, e1, r1, ⟨p, vs, ev, hf, hp, d1, hn⟩, h1⟩ => ?_⟩
  subst ev
  refine h1 (ι1 ++ [p]) H1 _ (e1.take hf) (r1.take hn hp (.lst d1)) (((en.mono e1.toGr).mono (Gr.more p)).set (.ref ?_) j)
  rw [← r1.len]; simp
theorem ds_new (c : Ctx X W k N vis loc gls) (j : Nat) {x : Str} (he : PE X e (tTm X.K fl W)) (hN : N[j]? = some x := by rfl) (hl : loc.contains j = true := by rfl) (hs : swapsWith e (some (.Name x pos')) pos.line X.env = pure false := by rfl) : PS X (.Assign [.Name x pos'] e pos) (tS X.K (sNew j fl) W) := ds_new0 c.toCtx0 j he hN hl hs
/-- name = [..] on one line -/
theorem ds_setLc (c : Ctx X W k N vis loc gls) (j : Nat) (vis2 loc2 : List Nat) (gls2 : List Str) (own : List (Str × Nat)) {x : Str} {elt tg iter : Expr} {ifs : List Expr} {scope : Scope} {spos p1 : Pos} {fi : Env → Sto → R Src} {asg : Asg} {ts : List Nat} {ft : Env → Sto → R Bool} {fe : Env → Sto → R D}
    (hi : PI X tg iter (tI X.K fi W)) (ok : BlkOk N X.env.scope scope own) (hsc : scOk N scope vis2 loc2 gls2 = true) (hts : (ts.all fun j => (own.map (·.2)).contains j) = true)
    (hg : ∀ X' : Cx, Sm X X' → Ctx X' W0 k N vis2 loc2 gls2 → PG X' tg (gD X'.K asg ts)) (ht : ∀ X' : Cx, Sm X X' → Ctx X' W0 k N vis2 loc2 gls2 → PTs X' ifs (tBo X'.K ft W0)) (he : ∀ X' : Cx, Sm X X' → Ctx X' W0 k N vis2 loc2 gls2 → PE X' elt (tD X'.K fe W0))
    (hk : X.env.scope.kind = .function) (hll : (p1.line == spos.line) = true) (ha : (scope.names.any fun (n, k) => n == x && (k == .local || k == .cell)) = false)
    (hN : N[j]? = some x := by rfl) (hloc : X.env.scope.names.lookup x = some .local)
    (hs : ∀ x, foldedSetIterable iter X.env x = pure x := by intro _; rfl) : PS X (.Assign [.Name x p1] (.ListComp elt [⟨tg, iter, ifs, 0⟩] scope spos) pos) (tS X.K (sNew j (lComp fi asg (own.map (·.2)) ft fe)) W) := by
  refine PS.imp (ps_setLc (g := gD X.K asg ts) (tt := tBo X.K ft W0) (te := tD X.K fe W0) c.calm (by rw [c.hN]; exact c.nd) (by rw [c.hN]; exact hN) hloc (sw_true hk hloc hll ha) hi (own := own) (by rw [c.hN]; exact ok)
    (fun s H C cl fp => hg (X.blk s H scope (compEnvC scope cl C X.env) fp) ⟨rfl, rfl, rfl, rfl, rfl⟩ (c.blk hsc s H C cl fp)) (fun s H C cl fp => ht (X.blk s H scope (compEnvC scope cl C X.env) fp) ⟨rfl, rfl, rfl, rfl, rfl⟩ (c.blk hsc s H C cl fp)) (fun s H C cl fp => he (X.blk s H scope (compEnvC scope cl C X.env) fp) ⟨rfl, rfl, rfl, rfl, rfl⟩ (c.blk hsc s H C cl fp)) hs) fun D σ H ⟨ι, env, S, r, en, h⟩ => ?_
  refine lc_imp (fun j hj => by simpa using List.all_eq_true.mp hts j hj) ⟨ι, env, S, r, en, (endsS.bind0 en h).imp fun v H1 ⟨ι1, xs, S1, _, e1, r1, ⟨p, vs, ev, hf, hp, d1, hn⟩, h1⟩ => ?_⟩
  subst ev
  refine h1 (ι1 ++ [p]) H1 _ (e1.take hf) (r1.take hn hp (.lst d1)) (((en.mono e1.toGr).mono (Gr.more p)).set (.ref ?_) j)
  rw [← r1.len]; simp
theorem ds_asg (he : PE X e (tD X.K fe W)) (hg : PG X o (gD X.K asg ts)) (hs : swapsWithSole [o] e pos.line X.env = pure false := by rfl) (hw : swappedStores [o] e X.env = pure none := by rfl) (h1 : (assignEach [o] X.env).map (·.2) = [assign o X.env] := by rfl) : PS X (.Assign [o] e pos) (tS X.K (sAsg asg fe) W) := by
  refine PS.imp (ps_asg he hg hs hw h1) fun D σ H ⟨ι, env, S, r, en, h⟩ => ⟨ι, env, S, r, en, (endsS.bind en h).imp fun v H1 ⟨ι1, x, S1, _, e1, r1, d1, h1⟩ => ?_⟩
  split at h1
  · rename_i env2 q
    exact ⟨ι1, env, x, env2, en.mono e1.toGr, d1, q, fun σ' en' _ => h1 ι1 H1 σ' (Ext.refl _ _) r1 en'⟩
  · exact h1.elim
theorem ds_aug (c : Ctx X W k N vis loc gls) (j : Nat) {x : Str} {op : Operator} {g : Op2} {ti : TIp} (he : PE X e (tD X.K fe W)) (ho : PIp X op ti) (hg : ∀ H ι x y z x' y' Q, g x y = some z → DV X.K H ι x x' → DV X.K H ι y y' → (∀ z', DV X.K H ι z z' → Q z' H) → ti x' y' H Q) (hN : N[j]? = some x := by rfl) (hl : loc.contains j = true := by rfl) :
    PS X (.AugAssign (.Name x pos') op e pos) (tS X.K (sAug j g fe) W) := by
  obtain ⟨h1, h2⟩ := c.hl j (by simpa using hl) x hN
  refine PS.imp (ps_aug (i := j) (by rw [c.hN]; exact c.nd) (by rw [c.hN]; exact hN) h1 he ho h2) fun D σ H ⟨ι, env, S, r, en, h⟩ => ?_
  unfold sAug at h
  split at h
  · rename_i y hy
    obtain ⟨v, e1, dv⟩ := en.at_ j y hy
    refine ⟨v, e1, ι, env, S, r, en, (endsS.bind en h).imp fun w H1 ⟨ι1, x, S1, _, e1, r1, d1, h1⟩ => ?_⟩
    split at h1
    · rename_i z q
      exact hg H1 ι1 _ _ z v w _ q (dv.mono e1.toGr) d1 fun z' dz => h1 ι1 H1 _ (Ext.refl _ _) r1 ((en.mono e1.toGr).set dz j)
    · exact h1.elim
  · exact h.elim
theorem g_add {K : PySem.W.Frag} : ∀ H ι x y z x' y' Q, iAdd x y = some z → DV K H ι x x' → DV K H ι y y' → (∀ z', DV K H ι z z' → Q z' H) → ipI (fun i j => i + j) x' y' H Q := fun H ι x y z x' y' Q h dx dy q => by
  cases dx <;> cases dy <;> simp [iAdd] at h
  subst h
  exact ⟨_, _, rfl, rfl, q _ (.int _)⟩
theorem g_sub {K : PySem.W.Frag} : ∀ H ι x y z x' y' Q, iSub x y = some z → DV K H ι x x' → DV K H ι y y' → (∀ z', DV K H ι z z' → Q z' H) → ipI (fun i j => i - j) x' y' H Q := fun H ι x y z x' y' Q h dx dy q => by
  cases dx <;> cases dy <;> simp [iSub] at h
  subst h
  exact ⟨_, _, rfl, rfl, q _ (.int _)⟩
theorem ds_augAdd (c : Ctx X W k N vis loc gls) (j : Nat) {x : Str} (he : PE X e (tD X.K fe W)) (hN : N[j]? = some x := by rfl) (hl : loc.contains j = true := by rfl) : PS X (.AugAssign (.Name x pos') .Add e pos) (tS X.K (sAug j iAdd fe) W) := ds_aug c j he ip_add g_add hN hl
theorem ds_augSub (c : Ctx X W k N vis loc gls) (j : Nat) {x : Str} (he : PE X e (tD X.K fe W)) (hN : N[j]? = some x := by rfl) (hl : loc.contains j = true := by rfl) : PS X (.AugAssign (.Name x pos') .Sub e pos) (tS X.K (sAug j iSub fe) W) := ds_aug c j he ip_sub g_sub hN hl
/-- three things, one behind the other -/
theorem putIt_ok (hu : X.A.units + 1 < cLine) {pins : List (Addr × Obj)} {s : Shared} {σ : St} {H : Hp} {ι : List Addr} {S S' : Sto} {o i v : D} {o' i' v' : V} {ou iu vu : Value} {Q : Unit → Shared → Prop} (I : Inv X pins σ H s) (r : Rep X.K H ι S) (d1 : DV X.K H ι o o') (d2 : DV X.K H ι i i') (d3 : DV X.K H ι v v')
    (r1 : RelV o' ou) (r2 : RelV i' iu) (r3 : RelV v' vu) (h : putIt o i v S = some S') (q : ∀ H' s', Inv X pins σ H' s' → Ext H ι H' ι → Rep X.K H' ι S' → Q () s') : wpAny (model X.prog X.w) X.A (setItem ou iu vu) Q X.xe s := by
  cases d1 with
  | @ref n a hn =>
    simp only [putIt] at h
    split at h
    · rename_i xs hs
      split at h
      · rename_i kk
        split at h
        · rename_i j hj
          cases h
          cases d2
          obtain ⟨vs, e1, dd⟩ := r.lst hs hn
          have hj' : ixN vs.length kk = some j := by rw [← dd.length]; exact hj
          refine thn (set_list pins s σ H (.ref a) (.int kk) v' ou iu vu (fun H' => H' = upd H a (.lst (vs.set j v'))) I r1 r2 r3 ⟨a, vs, kk, j, rfl, rfl, e1, hj', rfl⟩) fun _ s' ⟨H', I', eH⟩ => ?_
          subst eH
          exact q _ s' I' (r.ext_write hs rfl hn _) (r.write hs rfl hn (.lst (dd.set d3 j)))
        · cases h
      · cases h
    · rename_i kvs hs
      split at h
      · rename_i kk hk
        split at h
        · rename_i hz
          cases h
          obtain ⟨vs, e1, dd⟩ := r.dK hs hn
          have z := of_decide_eq_true hz
          have e2 := keyOf_ok d2 hk
          subst e2
          cases r1
          refine d_setItem hu I (DPut.k e1 (by rw [← dd.length]; omega)) r2 r3 fun s' I' => q _ s' I' (r.ext_write hs rfl hn _) (r.write hs rfl hn (.dK (dd.put d3)))
        · cases h
      · cases h
    · rename_i kvs hs
      split at h
      · rename_i kk hk
        split at h
        · rename_i hz
          cases h
          obtain ⟨vs, e1, dd⟩ := r.dT hs hn
          have z := of_decide_eq_true hz
          obtain ⟨b, e2, e3⟩ := tkeyOf_ok d2 hk
          subst e2
          cases r1
          refine d_setItem hu I (DPut.t e1 e3 (by rw [← dd.length]; omega)) r2 r3 fun s' I' => q _ s' I' (r.ext_write hs rfl hn _) (r.write hs rfl hn (.dT (dd.put d3)))
        · cases h
      · cases h
    · cases h
  | _ => cases h
theorem ds_put (c : Ctx X W k N vis loc gls) (ho : PE X o (tD X.K fo W)) (hi : PE X i (tD X.K fi W)) (hv : PE X value (tD X.K fv W)) (hs : swapsWith value (some (.Subscript o i pos')) pos.line X.env = pure false := by rfl) : PS X (.Assign [.Subscript o i pos'] value pos) (tS X.K (sPut fo fi fv) W) := by
  have hu : X.A.units + 1 < cLine := by have := c.hr.units; omega
  refine ⟨fun pins s σ H D I ⟨ι, env, S, r, en, h⟩ => ?_⟩
  refine wpAny_Assign_Subscript (thn (hv.run pins s σ H _ I ⟨ι, env, S, r, en, endsS.bind en h⟩) fun vu s1 ⟨v', H1, I1, rv, ι1, v, S1, _, e1, r1, d1, h1⟩ => ?_) hs
  have en1 := en.mono e1.toGr
  refine thn (ho.run pins s1 σ H1 _ I1 ⟨ι1, env, S1, r1, en1, endsS.bind en1 h1⟩) fun ou s2 ⟨o', H2, I2, ro, ι2, o, S2, _, e2, r2, d2, h2⟩ => ?_
  have en2 := en1.mono e2.toGr
  refine thn (hi.run pins s2 σ H2 _ I2 ⟨ι2, env, S2, r2, en2, endsS.bind en2 h2⟩) fun iu s3 ⟨i', H3, I3, ri, ι3, i, S3, _, e3, r3, d3, h3⟩ => ?_
  split at h3
  · rename_i S4 hp
    exact putIt_ok hu I3 r3 (d2.mono e3.toGr) d3 ((d1.mono e2.toGr).mono e3.toGr) ro ri rv hp fun H4 s4 I4 e4 r4 => ⟨σ, H4, I4, h3 ι3 H4 σ e4 r4 ((en2.mono e3.toGr).mono e4.toGr)⟩
  · exact h3.elim
end
end DL

namespace DL
open PySem PySem.Spec PyProof.Rows L2
section
variable {X : Cx} {W : WX} {k : Nat} {N : List Str} {vis loc : List Nat} {gls : List Str} {e o i value : Expr} {es : List Expr} {st : Stmt} {rest sa sb : List Stmt} {pos pos' tpos : Pos} {fe fo fi fv : Env → Sto → R D}
theorem getIt_ok (hu : X.A.units + 1 < cLine) {pins : List (Addr × Obj)} {s : Shared} {σ : St} {H : Hp} {ι : List Addr} {S : Sto} {o i v : D} {o' i' : V} {ou iu : Value} {Q : Value → Shared → Prop} (I : Inv X pins σ H s) (r : Rep X.K H ι S) (d1 : DV X.K H ι o o') (d2 : DV X.K H ι i i')
    (r1 : RelV o' ou) (r2 : RelV i' iu) (h : getIt o i S = some v) (q : ∀ v' w s', Inv X pins σ H s' → DV X.K H ι v v' → RelV v' w → Q w s') : wpAny (model X.prog X.w) X.A (getItem ou iu) Q X.xe s := by
  cases d1 with
  | @ref n a hn =>
    simp only [getIt] at h
    split at h
    · rename_i xs hs
      split at h
      · rename_i kk
        cases d2
        obtain ⟨vs, e1, dd⟩ := r.lst hs hn
        obtain ⟨v', e2, dv⟩ := dd.atI h
        obtain ⟨its, m, rv, ho, hz⟩ := I.lst e1
        obtain ⟨t, rfl⟩ := r2
        cases r1
        have hn63 := line63
        unfold L2.atI at e2
        cases hj : ixN vs.length kk with
        | none => rw [hj] at e2; cases e2
        | some j =>
          rw [hj] at e2
          have e2 : vs[j]? = some v' := e2
          obtain ⟨h1, h2, h3, h4⟩ := ixN_seq hj
          have hl := rv.length
          obtain ⟨u, hu', ru⟩ := rv.get e2
          have fin := q v' u s I dv ru
          have isl : s.heap.IsList a its.toArray := PySem.IsL.isList ho
          by_cases h0 : 0 ≤ kk
          · have hk : kk.toNat = j := by
              rw [seqIndex_of h0 h4] at h1
              exact Option.some.inj h1
            exact getItem_listL isl h0 (by omega) (by rw [hk]; exact hu') fin
          · have hk : (kk + (its.toArray.size : Int)).toNat = j := by
              rw [seqIndex_neg (by omega) h3] at h1
              rw [List.size_toArray, ← hl]
              exact Option.some.inj h1
            exact wpAny_getItem_list_neg isl (by omega) (by rw [List.size_toArray, ← hl]; exact h3) (by omega) (by rw [hk]; simpa using hu') fin
      · cases h
    · split at h
      · rename_i d hd
        cases h
        obtain ⟨o', g, w, rfl, dw⟩ := dLook_ok r hn d2 hd
        cases r1
        exact d_getItem hu I g r2 fun w' s' I' rw' => q w w' s' I' dw rw'
      · cases h
  | _ => cases h
theorem ip_ok {op : Operator} {g : Op2} {ti : TIp} (ho : PIp X op ti) (hg : ∀ H ι x y z x' y' Q, g x y = some z → DV X.K H ι x x' → DV X.K H ι y y' → (∀ z', DV X.K H ι z z' → Q z' H) → ti x' y' H Q) {pins : List (Addr × Obj)} {s : Shared} {σ : St} {H : Hp} {ι : List Addr} {x y z : D} {x' y' : V} {u v : Value} {Q : Value → Shared → Prop}
    (I : Inv X pins σ H s) (d1 : DV X.K H ι x x') (d2 : DV X.K H ι y y') (r1 : RelV x' u) (r2 : RelV y' v) (h : g x y = some z) (q : ∀ z' w s', Inv X pins σ H s' → DV X.K H ι z z' → RelV z' w → Q w s') : wpAny (model X.prog X.w) X.A (inplaceOp op u v) Q X.xe s := by
  refine thn (ho pins s σ H x' y' u v (fun z' H' => H' = H ∧ DV X.K H ι z z') I r1 r2 (hg H ι x y z x' y' _ h d1 d2 fun z' dz => ⟨rfl, dz⟩)) fun w s' ⟨z', H', I', rz, eH, dz⟩ => ?_
  subst eH
  exact q z' w s' I' dz rz
theorem ds_augI {op : Operator} {g : Op2} {ti : TIp} (c : Ctx X W k N vis loc gls) (hop : PIp X op ti) (hg : ∀ H ι x y z x' y' Q, g x y = some z → DV X.K H ι x x' → DV X.K H ι y y' → (∀ z', DV X.K H ι z z' → Q z' H) → ti x' y' H Q)
    (ho : PE X o (tD X.K fo W)) (hi : PE X i (tD X.K fi W)) (hv : PE X value (tD X.K fv W)) (ha : ∀ ov iv new, augStore i ov iv new = (do holding [new, ov, iv] (setItem ov iv new); release [new, ov, iv] []; pure .next) := by intros; rfl) : PS X (.AugAssign (.Subscript o i tpos) op value pos) (tS X.K (sAugI g fo fi fv) W) := by
  have hu : X.A.units + 1 < cLine := by have := c.hr.units; omega
  refine ⟨fun pins s σ H D I ⟨ι, env, S, r, en, h⟩ => ?_⟩
  refine wpAny_AugAssign_SubscriptAny (thn (ho.run pins s σ H _ I ⟨ι, env, S, r, en, endsS.bind en h⟩) fun ou s1 ⟨o', H1, I1, ro, ι1, o, S1, _, e1, r1, d1, h1⟩ => ?_) ha
  have en1 := en.mono e1.toGr
  refine thn (hi.run pins s1 σ H1 _ I1 ⟨ι1, env, S1, r1, en1, endsS.bind en1 h1⟩) fun iu s2 ⟨i', H2, I2, ri, ι2, i, S2, _, e2, r2, d2, h2⟩ => ?_
  have en2 := en1.mono e2.toGr
  split at h2
  · rename_i x hx
    refine getIt_ok hu I2 r2 (d1.mono e2.toGr) d2 ro ri hx fun x' xu s3 I3 dx rx => ?_
    refine thn (hv.run pins s3 σ H2 _ I3 ⟨ι2, env, S2, r2, en2, endsS.bind en2 h2⟩) fun yu s4 ⟨y', H4, I4, ry, ι4, y, S4, _, e4, r4, d4, h4⟩ => ?_
    split at h4
    · rename_i z hz
      refine ip_ok hop hg I4 (dx.mono e4.toGr) d4 rx ry hz fun z' zu s5 I5 dz rz => ?_
      split at h4
      · rename_i S5 hp
        exact putIt_ok hu I5 r4 ((d1.mono e2.toGr).mono e4.toGr) (d2.mono e4.toGr) dz ro ri rz hp fun H6 s6 I6 e6 r6 => ⟨σ, H6, I6, h4 ι4 H6 σ e6 r6 ((en2.mono e4.toGr).mono e6.toGr)⟩
      · exact h4.elim
    · exact h4.elim
  · exact h2.elim
theorem ds_augIAdd (c : Ctx X W k N vis loc gls) (ho : PE X o (tD X.K fo W)) (hi : PE X i (tD X.K fi W)) (hv : PE X value (tD X.K fv W)) (ha : ∀ ov iv new, augStore i ov iv new = (do holding [new, ov, iv] (setItem ov iv new); release [new, ov, iv] []; pure .next) := by intros; rfl) : PS X (.AugAssign (.Subscript o i tpos) .Add value pos) (tS X.K (sAugI iAdd fo fi fv) W) := ds_augI c ip_add g_add ho hi hv ha

/-! ### fields -/
theorem getF_ok {H : Hp} {ι : List Addr} {S : Sto} {C : Addr} {f : Str} {o d : D} {o' : V} (r : Rep X.K H ι S) (d1 : DV X.K H ι o o') (h : getF' C f o S = some d) : ∃ a dx fs v, o' = .ref a ∧ H a = some (.ins C dx fs) ∧ fs.lookup f = some v ∧ DV X.K H ι d v := by
  cases d1 with
  | @ref n a hn =>
    simp only [getF'] at h
    split at h
    · rename_i C' fs hs
      split at h
      · rename_i hC
        subst hC
        obtain ⟨dx, gs, e1, dd⟩ := r.ins hs hn
        obtain ⟨v, e2, dv⟩ := dd.lookup h
        exact ⟨a, dx, gs, v, rfl, e1, e2, dv⟩
      · cases h
    · cases h
  | _ => cases h
theorem putF_ok {H : Hp} {ι : List Addr} {S S' : Sto} {C : Addr} {f : Str} {o d : D} {o' v : V} (r : Rep X.K H ι S) (d1 : DV X.K H ι o o') (d2 : DV X.K H ι d v) (h : putF' C f o d S = some S') : ∃ a dx fs, o' = .ref a ∧ H a = some (.ins C dx fs) ∧ fs.length < 1000 ∧ Ext H ι (upd H a (.ins C dx (L2.putF f v fs))) ι ∧ Rep X.K (upd H a (.ins C dx (L2.putF f v fs))) ι S' := by
  cases d1 with
  | @ref n a hn =>
    simp only [putF'] at h
    split at h
    · rename_i C' fs hs
      split at h
      · rename_i hC
        obtain ⟨hC, hl⟩ := hC
        subst hC
        cases h
        obtain ⟨dx, gs, e1, dd⟩ := r.ins hs hn
        exact ⟨a, dx, gs, rfl, e1, by rw [← dd.length]; exact hl, r.ext_write hs rfl hn _, r.write hs rfl hn (.ins (dd.putF d2))⟩
      · cases h
    · cases h
  | _ => cases h
theorem de_fld {C : Addr} {f : Str} (hc : Cls X.K C) (hn : NoAttr X.K C f) (ho : PE X o (tD X.K fo W)) (hb : attributeBase o f X.env (eval o X.env) = eval o X.env := by rfl) : PE X (.Attribute o f pos) (tD X.K (eFld C f fo) W) := by
  refine PE.imp (pe_fld ho hb) fun σ H Q ⟨ι, env, S, r, en, h⟩ => ⟨ι, env, S, r, en, (ends.bind h).imp fun v H1 ⟨ι1, x, S1, _, e1, r1, d1, h1⟩ => ?_⟩
  obtain ⟨d, hd, h2⟩ := ofO_ret h1
  obtain ⟨a, dx, fs, w, rfl, ea, el, dw⟩ := getF_ok r1 d1 hd
  exact ⟨a, C, dx, fs, w, rfl, ea, hc, hn, el, h2 ι1 H1 w (Ext.refl _ _) r1 dw⟩
theorem ds_fld {C : Addr} {f : Str} (hc : Cls X.K C) (hn : NoAttr X.K C f) (ho : PE X o (tD X.K fo W)) (hv : PE X value (tD X.K fv W)) (hs : swapsWith value (some (.Attribute o f pos')) pos.line X.env = pure false := by rfl) : PS X (.Assign [.Attribute o f pos'] value pos) (tS X.K (sFldS C f fo fv) W) := by
  refine PS.imp (ps_fld ho hv hs) fun D σ H ⟨ι, env, S, r, en, h⟩ => ⟨ι, env, S, r, en, (endsS.bind en h).imp fun v H1 ⟨ι1, x, S1, _, e1, r1, d1, h1⟩ => ?_⟩
  have en1 := en.mono e1.toGr
  refine ⟨ι1, env, S1, r1, en1, (endsS.bind en1 h1).imp fun w H2 ⟨ι2, y, S2, _, e2, r2, d2, h2⟩ => ?_⟩
  split at h2
  · rename_i S3 hp
    obtain ⟨a, dx, fs, rfl, ea, hl, ex, r3⟩ := putF_ok r2 d2 (d1.mono e2.toGr) hp
    exact ⟨a, C, dx, fs, rfl, ea, hc, hn, hl, h2 ι2 _ σ ex r3 ((en1.mono e2.toGr).mono ex.toGr)⟩
  · exact h2.elim
theorem ds_fldA {C : Addr} {f : Str} {op : Operator} {g : Op2} {ti : TIp} (hc : Cls X.K C) (hn : NoAttr X.K C f) (hop : PIp X op ti) (hg : ∀ H ι x y z x' y' Q, g x y = some z → DV X.K H ι x x' → DV X.K H ι y y' → (∀ z', DV X.K H ι z z' → Q z' H) → ti x' y' H Q)
    (ho : PE X o (tD X.K fo W)) (hv : PE X value (tD X.K fv W)) : PS X (.AugAssign (.Attribute o f tpos) op value pos) (tS X.K (sFldA C f g fo fv) W) := by
  refine PS.imp (ps_fldaug (rd := ti) ho hv hop) fun D σ H ⟨ι, env, S, r, en, h⟩ => ⟨ι, env, S, r, en, (endsS.bind en h).imp fun v H1 ⟨ι1, x, S1, _, e1, r1, d1, h1⟩ => ?_⟩
  have en1 := en.mono e1.toGr
  split at h1
  · rename_i z hz
    obtain ⟨a, dx, fs, w, rfl, ea, el, dw⟩ := getF_ok r1 d1 hz
    refine ⟨a, C, dx, fs, w, rfl, ea, hc, hn, el, ι1, env, S1, r1, en1, (endsS.bind en1 h1).imp fun u H2 ⟨ι2, y, S2, _, e2, r2, d2, h2⟩ => ?_⟩
    split at h2
    · rename_i q hq
      refine hg H2 ι2 _ _ q w u _ hq (dw.mono e2.toGr) d2 fun q' dq => ?_
      split at h2
      · rename_i S3 hp
        obtain ⟨a', dx', fs', ea', eb, hl, ex, r3⟩ := putF_ok r2 (d1.mono e2.toGr) dq hp
        cases ea'
        exact ⟨dx', fs', eb, hl, h2 ι2 _ σ ex r3 ((en1.mono e2.toGr).mono ex.toGr)⟩
      · exact h2.elim
    · exact h2.elim
  · exact h1.elim
theorem ds_fldAdd {C : Addr} {f : Str} (hc : Cls X.K C) (hn : NoAttr X.K C f) (ho : PE X o (tD X.K fo W)) (hv : PE X value (tD X.K fv W)) : PS X (.AugAssign (.Attribute o f tpos) .Add value pos) (tS X.K (sFldA C f iAdd fo fv) W) := ds_fldA hc hn ip_add g_add ho hv
theorem ds_fldSub {C : Addr} {f : Str} (hc : Cls X.K C) (hn : NoAttr X.K C f) (ho : PE X o (tD X.K fo W)) (hv : PE X value (tD X.K fv W)) : PS X (.AugAssign (.Attribute o f tpos) .Sub value pos) (tS X.K (sFldA C f iSub fo fv) W) := ds_fldA hc hn ip_sub g_sub ho hv
end
end DL

namespace DL
open PySem PySem.Spec PyProof.Rows L2

/-! ### defs as functions on data -/
abbrev Fn := List D → Sto → R D
structure Mod where
  P : Program
  w : World
  K : PySem.W.Frag
  mg : Str → Option Value
  base : Heap
/-- the program around X -/
structure Md (M : Mod) (X : Cx) : Prop where
  prog : X.prog = M.P
  w : X.w = M.w
  K : X.K = M.K
  mg : X.mg = M.mg
  base : X.base = M.base
theorem Md.to {M : Mod} {X X' : Cx} (m : Md M X) (s : Sm X X') : Md M X' := ⟨s.prog.trans m.prog, s.w.trans m.w, s.K.trans m.K, s.mg.trans m.mg, s.base.trans m.base⟩
def WXof (E : XK) : WX := fun cls d _ H => E cls d H
def spD (K : PySem.W.Frag) (n : Nat) (g : Fn) : Sp := fun vs H Q E => ∃ ι args S, args.length = n ∧ Rep K H ι S ∧ DVs K H ι args vs ∧ ends K (WXof E) [] (DV K) H ι Q (g args S)
def startE (N : List Str) (args : List D) : Env := args.map some ++ List.replicate (N.length - args.length) none
def retOf : RS → R D
  | .nx _ S => .ok .non S
  | .rt d S => .ok d S
  | .err x _ S => .err x S
  | _ => .bad
theorem startE_ok {K : PySem.W.Frag} {H : Hp} {ι : List Addr} {N : List Str} {args : List D} {vs : List V} (d : DVs K H ι args vs) : EnvR K H ι (startE N args) (L2.start N vs) := by
  refine ⟨by simp [startE, L2.start, d.length], fun i x h => ?_⟩
  unfold startE at h
  by_cases hi : i < args.length
  · rw [List.getElem?_append_left (by simpa using hi), List.getElem?_map] at h
    cases q : args[i]? with
    | none => rw [q] at h; cases h
    | some y =>
      rw [q] at h
      cases h
      obtain ⟨v, h1, h2⟩ := d.get q
      refine ⟨v, ?_, h2⟩
      unfold L2.start
      rw [List.getElem?_append_left (by simpa [d.length] using hi), List.getElem?_map, h1]
      rfl
  · rw [List.getElem?_append_right (by simpa using hi)] at h
    have := List.mem_of_getElem? h
    rw [List.mem_replicate] at this
    cases this.2
/-- a def of the program that can be called by its name -/
structure Cl (M : Mod) (k : Nat) (x : Str) (n : Nat) (g : Fn) : Prop where
  ex : ∃ (f : Addr) (fd : FuncData) (ps : List Str), FnOk M.P M.w M.K M.mg M.base (L2N.CX M.P M.w) k f fd ps (spD M.K n g) ∧ M.mg x = some (.ref f) ∧ PySem.W.keepIn M.K (.ref f) = true ∧ Binds M.K fd ps []
/-- a method of the class at C; the object is the first argument -/
structure Me (M : Mod) (k : Nat) (C : Addr) (m : Str) (n : Nat) (g : Fn) : Prop where
  ex : ∃ (f : Addr) (fd : FuncData) (ps : List Str), FnOk M.P M.w M.K M.mg M.base (L2N.CX M.P M.w) k f fd ps (spD M.K n g) ∧ Binds M.K fd ps [] ∧ Cls M.K C ∧ Meth M.K C m f
/-- a class to be made by its name -/
structure Mkr (M : Mod) (k : Nat) (x : Str) (C : Addr) (n : Nat) (g : Fn) : Prop where
  ex : ∃ (f : Addr) (fd : FuncData) (ps : List Str), FnOk M.P M.w M.K M.mg M.base (L2N.CX M.P M.w) k f fd ps (spD M.K n g) ∧ M.mg x = some (.ref C) ∧ Binds M.K fd ps [] ∧ Mk M.K C f
theorem Cl.to {M : Mod} {k : Nat} {x : Str} {n : Nat} {g : Fn} {X : Cx} (c : Cl M k x n g) (m : Md M X) : ∃ (f : Addr) (fd : FuncData) (ps : List Str), FnOk X.prog X.w X.K X.mg X.base (L2N.CX X.prog X.w) k f fd ps (spD X.K n g) ∧ X.mg x = some (.ref f) ∧ PySem.W.keepIn X.K (.ref f) = true ∧ Binds X.K fd ps [] := by
  obtain ⟨P, w, K, mg, base⟩ := M
  obtain ⟨h1, h2, h3, h4, h5⟩ := m
  simp only at h1 h2 h3 h4 h5
  subst h1 h2 h3 h4 h5
  exact c.ex
theorem Me.to {M : Mod} {k : Nat} {C : Addr} {x : Str} {n : Nat} {g : Fn} {X : Cx} (c : Me M k C x n g) (m : Md M X) : ∃ (f : Addr) (fd : FuncData) (ps : List Str), FnOk X.prog X.w X.K X.mg X.base (L2N.CX X.prog X.w) k f fd ps (spD X.K n g) ∧ Binds X.K fd ps [] ∧ Cls X.K C ∧ Meth X.K C x f := by
  obtain ⟨P, w, K, mg, base⟩ := M
  obtain ⟨h1, h2, h3, h4, h5⟩ := m
  simp only at h1 h2 h3 h4 h5
  subst h1 h2 h3 h4 h5
  exact c.ex
theorem Mkr.to {M : Mod} {k : Nat} {C : Addr} {x : Str} {n : Nat} {g : Fn} {X : Cx} (c : Mkr M k x C n g) (m : Md M X) : ∃ (f : Addr) (fd : FuncData) (ps : List Str), FnOk X.prog X.w X.K X.mg X.base (L2N.CX X.prog X.w) k f fd ps (spD X.K n g) ∧ X.mg x = some (.ref C) ∧ Binds X.K fd ps [] ∧ Mk X.K C f := by
  obtain ⟨P, w, K, mg, base⟩ := M
  obtain ⟨h1, h2, h3, h4, h5⟩ := m
  simp only at h1 h2 h3 h4 h5
  subst h1 h2 h3 h4 h5
  exact c.ex
/-- what is wanted at the slots does not matter where the wish says no slots -/
theorem ends_slots {α β : Type} {K : PySem.W.Frag} {W : WX} {σ : St} {rel : Rl α β} {H : Hp} {ι : List Addr} {Q : β → Hp → Prop} {r : R α} (h : ends K W σ rel H ι Q r) : ends K (WXof (WE W σ)) [] rel H ι Q r := by
  cases r with
  | ok a S => exact h
  | err x S => exact h
  | bad => exact h
theorem DP.lookup_none {K : PySem.W.Frag} {H : Hp} {ι : List Addr} {f : Str} : ∀ {fs : List (Str × D)} {gs : List (Str × V)}, DP K H ι fs gs → fs.lookup f = none → gs.lookup f = none
  | _, _, .nil, h => rfl
  | _, _, @DP.cons _ _ _ _ g x v ds vs r t, h => by
    rw [List.lookup_cons] at h ⊢
    cases q : f == g with
    | true => rw [q] at h; cases h
    | false => rw [q] at h; exact DP.lookup_none t h
theorem okN {P : Program} {w : World} {K : PySem.W.Frag} {mg : Str → Option Value} {base : Heap} {x qual : Str} {st : Stmt} {f : Addr} {fd : FuncData} {N ps : List Str} {k : Nat} {sp : Sp} (F : Fun K x qual st f fd) (S : FnScope N ps (defScope st)) (len : ∀ vs H Q E, sp vs H Q E → vs.length = ps.length)
    (hb : ∀ (cdv : Value) (A : Around) (outer : List PySem.Env) (s : Shared) (H : Hp) (vs : List V) (Q : VK) (E : XK), Room k (A.deeper (envOfC qual (defScope st) s.heap.objs.size f cdv)) → sp vs H Q E →
      ∃ t, PSs (cxOf (L2N.CX P w) P w K mg base N qual (defScope st) f cdv A outer s H E) (defBody st) t ∧ t { nx := fun _ H' => Q .non H', rt := Q } (start N vs) H) : FnOk P w K mg base (L2N.CX P w) (k + 1) f fd ps sp := by
  obtain ⟨_, _, _, _, _, _, cdv, _, _, rfl, lk, hc⟩ := F.ex
  exact fn_of lk hc S len fun A o s H vs Q E r h => hb cdv A o s H vs Q E r h
/-- a def, by its body -/
theorem fn_okT {M : Mod} {x qual : Str} {st : Stmt} {f : Addr} {fd : FuncData} {N ps : List Str} {k n : Nat} {vis loc : List Nat} {gls : List Str} {body : Env → Sto → RS} (F : Fun M.K x qual st f fd) (S : FnScope N ps (defScope st)) (hn : ps.length = n) (hsc : scOk N (defScope st) vis loc gls = true)
    (hb : ∀ (X : Cx) (W : WX), Md M X → Ctx X W k N vis loc gls → X.env.scope = defScope st → (X.stack = X.env :: X.outer ∧ X.env.frame = some X.env.locals) → PSs X (defBody st) (tS X.K body W)) : FnOk M.P M.w M.K M.mg M.base (L2N.CX M.P M.w) (k + 1) f fd ps (spD M.K n fun args S => retOf (body (startE N args) S)) := by
  refine okN F S (fun vs H Q E ⟨ι, args, St, hl, r, d, _⟩ => by rw [← d.length, hl, hn]) (fun cdv A outer s H vs Q E hr ⟨ι, args, St, hl, r, d, h⟩ => ⟨_, hb _ (WXof E) ⟨rfl, rfl, rfl, rfl, rfl⟩ ?_ rfl ⟨rfl, rfl⟩, ?_⟩)
  · have vis' : ∀ i ∈ vis, ∀ y, N[i]? = some y → Vis (defScope st) y := fun i hi y hy => by
      unfold scOk at hsc
      simp only [Bool.and_eq_true, List.all_eq_true] at hsc
      have q := hsc.1.1 i hi
      rw [hy] at q
      unfold Vis
      simp only at q
      cases w : (defScope st).names.lookup y with
      | none => rw [w] at q; simp at q
      | some kd => rw [w] at q; cases kd <;> simp at q ⊢
    have loc' : ∀ i ∈ loc, ∀ y, N[i]? = some y → L2.Loc (defScope st) y := fun i hi y hy => by
      unfold scOk at hsc
      simp only [Bool.and_eq_true, List.all_eq_true] at hsc
      have q := hsc.1.2 i hi
      rw [hy] at q
      unfold L2.Loc
      simp only at q
      cases w : (defScope st).names.lookup y with
      | none => rw [w] at q; simp at q
      | some kd => rw [w] at q; cases kd <;> simp at q ⊢
    have gls' : ∀ y ∈ gls, (defScope st).names.lookup y = some .globalImplicit := fun y hy => by
      unfold scOk at hsc
      simp only [Bool.and_eq_true, List.all_eq_true] at hsc
      have q := hsc.2 y hy
      cases w : (defScope st).names.lookup y with
      | none => rw [w] at q; simp at q
      | some kd => rw [w] at q; cases kd <;> simp at q ⊢
    exact ⟨⟨rfl, S.nd, L2N.takes_of rfl rfl rfl rfl, vis', fun i hi y hy => ⟨loc' i hi y hy, .inl rfl⟩, gls'⟩, rfl, passes_of rfl, hr⟩
  · refine ⟨ι, startE N args, St, r, startE_ok d, ?_⟩
    have h : ends M.K (WXof E) [] (DV M.K) H ι Q (retOf (body (startE N args) St)) := h
    cases q : body (startE N args) St with
    | nx e S1 => rw [q] at h; exact fun ι1 H1 σ1 e1 r1 en1 => h ι1 H1 .non e1 r1 .non
    | rt x S1 => rw [q] at h; exact h
    | bk e S1 => rw [q] at h; exact h.elim
    | ct e S1 => rw [q] at h; exact h.elim
    | err x e S1 => rw [q] at h; exact fun ι1 H1 cls dd σ1 e1 r1 en1 xr => h ι1 H1 cls dd e1 r1 xr
    | bad => rw [q] at h; exact h.elim
theorem fn_ok {M : Mod} {x qual : Str} {st : Stmt} {f : Addr} {fd : FuncData} {N ps : List Str} {k n : Nat} {vis loc : List Nat} {gls : List Str} {body : Env → Sto → RS} (F : Fun M.K x qual st f fd) (S : FnScope N ps (defScope st)) (hn : ps.length = n) (hsc : scOk N (defScope st) vis loc gls = true)
    (hb : ∀ (X : Cx) (W : WX), Md M X → Ctx X W k N vis loc gls → X.env.scope = defScope st → PSs X (defBody st) (tS X.K body W)) : FnOk M.P M.w M.K M.mg M.base (L2N.CX M.P M.w) (k + 1) f fd ps (spD M.K n fun args S => retOf (body (startE N args) S)) :=
  fn_okT F S hn hsc fun X W md c hs _ => hb X W md c hs

/-! ### calls -/
def eCall (n : Nat) (g : Fn) (fa : Env → Sto → R (List D)) : Env → Sto → R D := fun env S => (fa env S).bind fun xs S1 => if xs.length = n then g xs S1 else .bad
def eMeth (C : Addr) (m : Str) (n : Nat) (g : Fn) (fo : Env → Sto → R D) (fa : Env → Sto → R (List D)) : Env → Sto → R D := fun env S => (fo env S).bind fun o S1 => match o with
  | .ref i => (match S1[i]? with
    | some (.ins C' fs) => if C' = C ∧ fs.lookup m = none then (fa env S1).bind fun xs S2 => if xs.length + 1 = n then g (o :: xs) S2 else .bad else .bad
    | _ => .bad)
  | _ => .bad
def eMake (C : Addr) (n : Nat) (g : Fn) (fa : Env → Sto → R (List D)) : Env → Sto → R D := fun env S => (fa env S).bind fun xs S1 => if xs.length + 1 = n then (g (.ref S1.length :: xs) (S1 ++ [.ins C []])).bind fun v S2 => (match v with
  | .non => .ok (.ref S1.length) S2
  | _ => .bad) else .bad
section
variable {M : Mod} {X : Cx} {W : WX} {k j : Nat} {N : List Str} {vis loc : List Nat} {gls : List Str} {e o : Expr} {es : List Expr} {x m : Str} {p pos apos : Pos} {n : Nat} {g : Fn} {fa : Env → Sto → R (List D)} {fo : Env → Sto → R D} {C : Addr}
theorem de_call (c : Ctx X W k N vis loc gls) (md : Md M X) (cl : Cl M j x n g) (hj : j ≤ k) (ha : PA X (e :: es) (tAr X.K fa W)) (hg : gls.contains x = true := by decide +kernel) (hdb : (x == ("__debug__" : Str)) = false := by decide +kernel) (he : starEach (e :: es) X.env = (false, eval e X.env) :: starEach es X.env := by rfl) (hpl : (backTo pos (starEach es X.env)).any (·.1) = false := by rfl) :
    PE X (.Call (.Name x p) (e :: es) [] pos) (tD X.K (eCall n g fa) W) := by
  obtain ⟨f, fd, ps, F, hm, hk, hb⟩ := cl.to md
  refine PE.imp (pe_callSD (dvs := []) F (c.hr.mono hj) (c.hg x (by simpa using hg)) hm hk hb .nil (fun σ => L2N.passAt c.tk σ) ha hdb he hpl) fun σ H Q ⟨ι, env, S, r, en, h⟩ => ⟨ι, env, S, r, en, (ends.bind h).imp fun vs H1 ⟨ι1, xs, S1, _, e1, r1, d1, h1⟩ => ?_⟩
  rw [List.append_nil]
  split at h1
  · rename_i hl
    exact ⟨ι1, xs, S1, hl, r1, d1, ends_slots h1⟩
  · exact h1.elim
theorem de_call0 (c : Ctx X W k N vis loc gls) (md : Md M X) (cl : Cl M j x n g) (hj : j ≤ k) (hg : gls.contains x = true := by decide +kernel) (hdb : (x == ("__debug__" : Str)) = false := by decide +kernel) : PE X (.Call (.Name x p) [] [] pos) (tD X.K (eCall n g aNil) W) := by
  obtain ⟨f, fd, ps, F, hm, hk, hb⟩ := cl.to md
  refine ⟨fun pins s σ H Q I ⟨ι, env, S, r, en, h⟩ => ?_⟩
  refine wpAny_Call_Name_kw (ld_glob I (c.hg x (by simpa using hg)) hm ?_ hdb)
  refine PySem.W.callWith_K0 I.kIn hk (run_fnSD (us := []) (vs := []) (dvs := []) F (c.hr.mono hj) hb .nil (L2N.passAt c.tk σ) I .nil ?_)
  have h : ends X.K W σ (DV X.K) H ι Q (if ([] : List D).length = n then g [] S else .bad) := h
  split at h
  · rename_i hl
    exact ⟨ι, [], S, hl, r, .nil, ends_slots h⟩
  · exact h.elim
theorem de_meth (c : Ctx X W k N vis loc gls) (md : Md M X) (cl : Me M j C m n g) (hj : j ≤ k) (ho : PE X o (tD X.K fo W)) (ha : PA X (e :: es) (tAr X.K fa W)) {pl : Sem Bool}
    (hst : starEach (e :: es) X.env = (false, eval e X.env) :: starEach es X.env := by rfl) (hpl : (backTo pos (starEach es X.env)).any (·.1) = false := by rfl)
    (ht : eval (.Call (.Attribute o m apos) (e :: es) [] pos) X.env = (do
      let ov ← eval o X.env
      standAt apos.atName
      let (f, first) ← holding [ov] (getMethod ov m pl)
      callWith pos f first (backTo pos (starEach (e :: es) X.env)) (backToKw pos (keywordEach [] X.env))) := by rfl) :
    PE X (.Call (.Attribute o m apos) (e :: es) [] pos) (tD X.K (eMeth C m n g fo fa) W) := by
  obtain ⟨f, fd, ps, F, hb, hc, hm⟩ := cl.to md
  refine ⟨fun pins s σ H Q I ⟨ι, env, S, r, en, h⟩ => ?_⟩
  refine PySem.W.methodCall_KW (pl := pl) (thn (ho.run pins s σ H _ I ⟨ι, env, S, r, en, ends.bind h⟩) fun u s1 ⟨x, H1, I1, rx, ι1, d, S1, _, e1, r1, d1, h1⟩ => ?_) ht
  cases d1 with
  | @ref i a hn =>
    simp only at h1
    split at h1
    · rename_i C' fs hs
      split at h1
      · rename_i hC
        obtain ⟨hC, hl⟩ := hC
        subst hC
        obtain ⟨dx, gs, ea, dd⟩ := r1.ins hs hn
        obtain rfl : u = Value.ref a := rx
        have hl' : gs.lookup m = none := dd.lookup_none hl
        refine getmeth_ok I1 ea hc hm hl' ?_
        refine PySem.W.callWith_K (first := [.ref a]) (h₀ := X.base) I.ok.mod.kin hm.kp (thn (ha.run pos pins s1 σ H1 _ I1 ⟨ι1, env, S1, r1, en.mono e1.toGr, ends.bind h1⟩) fun us s2 ⟨vs, H2, I2, rr, ι2, xs, S2, _, e2, r2, d2, h2⟩ => ⟨I2.kIn, ?_⟩) hst hpl
        split at h2
        · rename_i hlen
          refine run_fnSD (us := .ref a :: us) (vs := .ref a :: vs) (dvs := []) F (c.hr.mono hj) hb .nil (L2N.passAt c.tk σ) I2 (.cons rfl rr) ?_
          rw [List.append_nil]
          exact ⟨ι2, .ref i :: xs, S2, hlen, r2, .cons (.ref (e2.get hn)) d2, ends_slots h2⟩
        · exact h2.elim
      · exact h1.elim
    · exact h1.elim
  | _ => exact h1.elim
end
end DL

namespace DL
open PySem PySem.Spec PyProof.Rows L2

/-! ### builtins of one argument -/
/-- the items of a list or a tuple -/
def getA (l : LS) (S : Sto) : R (List D) := match l with
  | .tm xs => .ok xs S
  | .rf (.tup xs) => .ok xs S
  | .rf (.scr ns) => .ok (ns.map .int) S
  | .rf (.ref n) => (match S[n]? with
    | some (.lst xs) => .ok xs S
    | _ => .bad)
  | _ => .bad
/-- the items of a list -/
def getB (l : LS) (S : Sto) : R (List D) := match l with
  | .rf (.tup _) => .bad
  | l => getA l S
def eB1 {α : Type} (gl : Env → Sto → R LS) (g : LS → Sto → R α) : Env → Sto → R α := fun env S => (gl env S).bind g
def intsOf : List D → Option (List Int)
  | [] => some []
  | .int i :: r => (intsOf r).map (i :: ·)
  | _ => none
def strsOf : List D → Option (List Str)
  | [] => some []
  | .str i :: r => (strsOf r).map (i :: ·)
  | _ => none
def blsOf : List D → Option (List Bool)
  | [] => some []
  | .bl i :: r => (blsOf r).map (i :: ·)
  | _ => none
theorem intsOf_ok : ∀ {xs : List D} {ns : List Int}, intsOf xs = some ns → xs = ns.map .int
  | [], ns, h => by cases h; rfl
  | x :: r, ns, h => by
    cases x <;> simp only [intsOf] at h <;> try cases h
    cases q : intsOf r with
    | none => rw [q] at h; cases h
    | some ms => rw [q] at h; cases h; rw [intsOf_ok q]; rfl
theorem strsOf_ok : ∀ {xs : List D} {ns : List Str}, strsOf xs = some ns → xs = ns.map .str
  | [], ns, h => by cases h; rfl
  | x :: r, ns, h => by
    cases x <;> simp only [strsOf] at h <;> try cases h
    cases q : strsOf r with
    | none => rw [q] at h; cases h
    | some ms => rw [q] at h; cases h; rw [strsOf_ok q]; rfl
theorem blsOf_ok : ∀ {xs : List D} {ns : List Bool}, blsOf xs = some ns → xs = ns.map .bl
  | [], ns, h => by cases h; rfl
  | x :: r, ns, h => by
    cases x <;> simp only [blsOf] at h <;> try cases h
    cases q : blsOf r with
    | none => rw [q] at h; cases h
    | some ms => rw [q] at h; cases h; rw [blsOf_ok q]; rfl
@[simp] theorem intsOf_map (ns : List Int) : intsOf (ns.map .int) = some ns := by induction ns with | nil => rfl | cons a r ih => simp [intsOf, ih]
@[simp] theorem strsOf_map (ns : List Str) : strsOf (ns.map .str) = some ns := by induction ns with | nil => rfl | cons a r ih => simp [strsOf, ih]
@[simp] theorem blsOf_map (ns : List Bool) : blsOf (ns.map .bl) = some ns := by induction ns with | nil => rfl | cons a r ih => simp [blsOf, ih]
def bLen (l : LS) (S : Sto) : R D := match l with
  | .rf (.str z) => if small z.length then .ok (.int z.length) S else .bad
  | .rf (.ref n) => (match S[n]? with
    | some (.lst xs) => .ok (.int xs.length) S
    | some (.dK kvs) => .ok (.int kvs.length) S
    | _ => .bad)
  | l => (getA l S).bind fun xs S1 => .ok (.int xs.length) S1
def bAll (l : LS) (S : Sto) : R D := (getB l S).bind fun xs S1 => (R.ofO (blsOf xs) S1).bind fun bs S2 => .ok (.bl (bs.all id)) S2
def bAny (l : LS) (S : Sto) : R D := (getB l S).bind fun xs S1 => (R.ofO (blsOf xs) S1).bind fun bs S2 => .ok (.bl (bs.any id)) S2
def bSum (l : LS) (S : Sto) : R D := (getB l S).bind fun xs S1 => (R.ofO (intsOf xs) S1).bind fun ns S2 => .ok (.int ns.sum) S2
def mxI : List Int → Int
  | [] => 0
  | x :: r => r.foldl max x
def mnI : List Int → Int
  | [] => 0
  | x :: r => r.foldl min x
def bMax (l : LS) (S : Sto) : R D := (getB l S).bind fun xs S1 => (R.ofO (intsOf xs) S1).bind fun ns S2 => if ns = [] then .bad else .ok (.int (mxI ns)) S2
def bMin (l : LS) (S : Sto) : R D := (getB l S).bind fun xs S1 => (R.ofO (intsOf xs) S1).bind fun ns S2 => if ns = [] then .bad else .ok (.int (mnI ns)) S2
def bTuple (l : LS) (S : Sto) : R D := (getA l S).bind fun xs S1 => .ok (.tup xs) S1
def bList (l : LS) (S : Sto) : R (List D) := match l with
  | .rf (.ref n) => (match S[n]? with
    | some (.lst xs) => .ok xs S
    | some (.dK kvs) => .ok (kvs.map fun p => kD p.1) S
    | _ => .bad)
  | l => getA l S
def bInt (d : D) (S : Sto) : R D := match d with
  | .int i => .ok (.int i) S
  | .bl b => .ok (.int (if b then 1 else 0)) S
  | _ => .bad
def bStr (d : D) (S : Sto) : R D := match d with
  | .int i => if i.natAbs.log2 < 1920 then .ok (.str (toString i)) S else .bad
  | .str x => .ok (.str x) S
  | _ => .bad
theorem foldl_max_mem : ∀ (r : List Int) (x : Int), r.foldl max x ∈ x :: r
  | [], x => by simp
  | y :: r, x => by
    have := foldl_max_mem r (max x y)
    simp only [List.foldl_cons]
    rcases List.mem_cons.mp this with h | h
    · rw [h]
      rcases Int.le_total x y with q | q
      · rw [Int.max_eq_right q]; simp
      · rw [Int.max_eq_left q]; simp
    · exact List.mem_cons_of_mem _ (List.mem_cons_of_mem _ h)
theorem foldl_max_le : ∀ (r : List Int) (x : Int), ∀ y ∈ x :: r, y ≤ r.foldl max x
  | [], x, y, h => by simp at h; subst h; exact Int.le_refl _
  | z :: r, x, y, h => by
    have ih := foldl_max_le r (max x z)
    simp only [List.foldl_cons]
    rcases List.mem_cons.mp h with h | h
    · subst h; exact Int.le_trans (Int.le_max_left _ _) (ih (max y z) List.mem_cons_self)
    · rcases List.mem_cons.mp h with h | h
      · subst h; exact Int.le_trans (Int.le_max_right _ _) (ih (max x y) List.mem_cons_self)
      · exact ih _ (List.mem_cons_of_mem _ h)
theorem foldl_min_mem : ∀ (r : List Int) (x : Int), r.foldl min x ∈ x :: r
  | [], x => by simp
  | y :: r, x => by
    have := foldl_min_mem r (min x y)
    simp only [List.foldl_cons]
    rcases List.mem_cons.mp this with h | h
    · rw [h]
      rcases Int.le_total x y with q | q
      · rw [Int.min_eq_left q]; simp
      · rw [Int.min_eq_right q]; simp
    · exact List.mem_cons_of_mem _ (List.mem_cons_of_mem _ h)
theorem foldl_min_le : ∀ (r : List Int) (x : Int), ∀ y ∈ x :: r, r.foldl min x ≤ y
  | [], x, y, h => by simp at h; subst h; exact Int.le_refl _
  | z :: r, x, y, h => by
    have ih := foldl_min_le r (min x z)
    simp only [List.foldl_cons]
    rcases List.mem_cons.mp h with h | h
    · subst h; exact Int.le_trans (ih (min y z) List.mem_cons_self) (Int.min_le_left _ _)
    · rcases List.mem_cons.mp h with h | h
      · subst h; exact Int.le_trans (ih (min x y) List.mem_cons_self) (Int.min_le_right _ _)
      · exact ih _ (List.mem_cons_of_mem _ h)
theorem mxI_mem {ns : List Int} (h : ns ≠ []) : mxI ns ∈ ns := by cases ns with | nil => exact absurd rfl h | cons a r => exact foldl_max_mem r a
theorem mxI_le {ns : List Int} : ∀ y ∈ ns, y ≤ mxI ns := by cases ns with | nil => simp | cons a r => exact foldl_max_le r a
theorem mnI_mem {ns : List Int} (h : ns ≠ []) : mnI ns ∈ ns := by cases ns with | nil => exact absurd rfl h | cons a r => exact foldl_min_mem r a
theorem mnI_le {ns : List Int} : ∀ y ∈ ns, mnI ns ≤ y := by cases ns with | nil => simp | cons a r => exact foldl_min_le r a
section
variable {K : PySem.W.Frag} {W : WX} {H0 H : Hp} {ι : List Addr} {S : Sto} {α β : Type} {rel : Rl α β} {σ : St} {Q : β → Hp → Prop} {x : LS} {v : V} {k : List D → Sto → R α}
theorem getA_end (r : Rep K H ι S) (d : lsR K H0 H ι x v) (h : ends K W σ rel H ι Q ((getA x S).bind k)) : ∃ a xs vs, v = .ref a ∧ (SqL K H a vs ∨ SqT K H a vs) ∧ DVs K H ι xs vs ∧ ends K W σ rel H ι Q (k xs S) := by
  cases x with
  | tm xs =>
    obtain ⟨p, vs, rfl, _, hp, d, hn⟩ := d
    exact ⟨p, xs, vs, rfl, .inl (SqL.of hp), d, h⟩
  | rf d' =>
    cases d' <;> try exact h.elim
    case ref n =>
      cases d with
      | ref hn =>
        simp only [getA] at h
        split at h
        · rename_i xs hs
          obtain ⟨vs, q1, q2⟩ := r.lst hs hn
          exact ⟨_, xs, vs, rfl, .inl (SqL.of q1), q2, h⟩
        · exact h.elim
    case tup xs =>
      cases d with
      | tup h1 d1 => exact ⟨_, xs, _, rfl, .inr (SqT.of h1), d1, h⟩
    case scr ns =>
      cases d with
      | scr hs => exact ⟨_, _, _, rfl, .inl hs.seq, DVs.of_ints _, h⟩
theorem getB_end (r : Rep K H ι S) (d : lsR K H0 H ι x v) (h : ends K W σ rel H ι Q ((getB x S).bind k)) : ∃ a xs vs, v = .ref a ∧ SqL K H a vs ∧ DVs K H ι xs vs ∧ ends K W σ rel H ι Q (k xs S) := by
  cases x with
  | tm xs =>
    obtain ⟨p, vs, rfl, _, hp, d, hn⟩ := d
    exact ⟨p, xs, vs, rfl, SqL.of hp, d, h⟩
  | rf d' =>
    cases d' <;> try exact h.elim
    case ref n =>
      cases d with
      | ref hn =>
        simp only [getB, getA] at h
        split at h
        · rename_i xs hs
          obtain ⟨vs, q1, q2⟩ := r.lst hs hn
          exact ⟨_, xs, vs, rfl, SqL.of q1, q2, h⟩
        · exact h.elim
    case scr ns =>
      cases d with
      | scr hs => exact ⟨_, _, _, rfl, hs.seq, DVs.of_ints _, h⟩
end
section
variable {X : Cx} {W : WX} {k : Nat} {N : List Str} {vis loc : List Nat} {gls : List Str} {e e2 : Expr} {x : Str} {p pos : Pos} {id T : String} {r : List V → Hp → VK → Prop} {gl : Env → Sto → R LS} {fa fb : Env → Sto → R D}
def Rd1 (X : Cx) (W : WX) (r : List V → Hp → VK → Prop) (g : LS → Sto → R D) : Prop := ∀ (σ : St) (H0 H : Hp) (ι0 ι : List Addr) (S : Sto) (l : LS) (v : V) (Q : VK), Ext H0 ι0 H ι → Rep X.K H ι S → lsR X.K H0 H ι l v → ends X.K W σ (DV X.K) H ι Q (g l S) → r [v] H Q
def Rl1 (X : Cx) (W : WX) (r : List V → Hp → VK → Prop) (g : LS → Sto → R (List D)) : Prop := ∀ (σ : St) (H0 H : Hp) (ι0 ι : List Addr) (S : Sto) (l : LS) (v : V) (Q : VK), Ext H0 ι0 H ι → Rep X.K H ι S → lsR X.K H0 H ι l v → ends X.K W σ (tmpR X.K H0) H ι Q (g l S) → r [v] H Q
theorem de_b1 (c : Ctx X W k N vis loc gls) {g : LS → Sto → R D} (hc : CallR X (.builtin id) r) (hr : Rd1 X W r g) (ha : PE X e (tLS X.K gl W)) (hm : X.mg x = none) (hv : bootBuiltins x = some (.builtin id)) (hg : gls.contains x = true) (hn : x ≠ "__name__") (hdb : (x == ("__debug__" : Str)) = false)
    (hs : starEach [e] X.env = (false, eval e X.env) :: starEach [] X.env := by rfl) : PE X (.Call (.Name x p) [e] [] pos) (tD X.K (eB1 gl g) W) := by
  refine PE.imp (pe_callB hc (c.hg x (by simpa using hg)) hm hv (pa_cons ha pa_nil hs) hn hdb hs rfl) fun σ H Q ⟨ι, env, S, rp, en, h⟩ => ⟨ι, env, S, rp, en, (ends.bind h).imp fun v H1 ⟨ι1, l, S1, _, e1, r1, d1, h1⟩ => hr σ H H1 ι ι1 S1 l v Q e1 r1 d1 h1⟩
theorem dl_b1 (c : Ctx X W k N vis loc gls) {g : LS → Sto → R (List D)} (hc : CallR X (.builtin id) r) (hr : Rl1 X W r g) (ha : PE X e (tLS X.K gl W)) (hm : X.mg x = none) (hv : bootBuiltins x = some (.builtin id)) (hg : gls.contains x = true) (hn : x ≠ "__name__") (hdb : (x == ("__debug__" : Str)) = false)
    (hs : starEach [e] X.env = (false, eval e X.env) :: starEach [] X.env := by rfl) : PE X (.Call (.Name x p) [e] [] pos) (tTm X.K (eB1 gl g) W) := by
  refine PE.imp (pe_callB hc (c.hg x (by simpa using hg)) hm hv (pa_cons ha pa_nil hs) hn hdb hs rfl) fun σ H Q ⟨ι, env, S, rp, en, h⟩ => ⟨ι, env, S, rp, en, (ends.bind h).imp fun v H1 ⟨ι1, l, S1, _, e1, r1, d1, h1⟩ => hr σ H H1 ι ι1 S1 l v Q e1 r1 d1 h1⟩
theorem de_t1 (c : Ctx X W k N vis loc gls) {g : LS → Sto → R D} (hc : CallR X (.type T) r) (hr : Rd1 X W r g) (ha : PE X e (tLS X.K gl W)) (hm : X.mg x = none) (hv : bootBuiltins x = some (.type T)) (hg : gls.contains x = true) (hn : x ≠ "__name__") (hdb : (x == ("__debug__" : Str)) = false)
    (hs : starEach [e] X.env = (false, eval e X.env) :: starEach [] X.env := by rfl) : PE X (.Call (.Name x p) [e] [] pos) (tD X.K (eB1 gl g) W) := by
  refine PE.imp (pe_callTy hc (c.hg x (by simpa using hg)) hm hv (pa_cons ha pa_nil hs) hn hdb hs rfl) fun σ H Q ⟨ι, env, S, rp, en, h⟩ => ⟨ι, env, S, rp, en, (ends.bind h).imp fun v H1 ⟨ι1, l, S1, _, e1, r1, d1, h1⟩ => hr σ H H1 ι ι1 S1 l v Q e1 r1 d1 h1⟩
theorem dl_t1 (c : Ctx X W k N vis loc gls) {g : LS → Sto → R (List D)} (hc : CallR X (.type T) r) (hr : Rl1 X W r g) (ha : PE X e (tLS X.K gl W)) (hm : X.mg x = none) (hv : bootBuiltins x = some (.type T)) (hg : gls.contains x = true) (hn : x ≠ "__name__") (hdb : (x == ("__debug__" : Str)) = false)
    (hs : starEach [e] X.env = (false, eval e X.env) :: starEach [] X.env := by rfl) : PE X (.Call (.Name x p) [e] [] pos) (tTm X.K (eB1 gl g) W) := by
  refine PE.imp (pe_callTy hc (c.hg x (by simpa using hg)) hm hv (pa_cons ha pa_nil hs) hn hdb hs rfl) fun σ H Q ⟨ι, env, S, rp, en, h⟩ => ⟨ι, env, S, rp, en, (ends.bind h).imp fun v H1 ⟨ι1, l, S1, _, e1, r1, d1, h1⟩ => hr σ H H1 ι ι1 S1 l v Q e1 r1 d1 h1⟩
theorem len_ok : Rd1 X W (fun xs H Q => (∃ x n, xs = [x] ∧ LenV X.K x H n ∧ Q (.int n) H) ∨ ∃ a kvs, xs = [V.ref a] ∧ H a = some (.dK kvs) ∧ Q (.int kvs.length) H) bLen := fun σ H0 H ι0 ι S l v Q e r d h => by
  have sq : ends X.K W σ (DV X.K) H ι Q ((getA l S).bind fun xs S1 => .ok (.int xs.length) S1) → (∃ x n, [v] = [x] ∧ LenV X.K x H n ∧ Q (.int n) H) ∨ ∃ a kvs, [v] = [V.ref a] ∧ H a = some (.dK kvs) ∧ Q (.int kvs.length) H := fun h => by
    obtain ⟨a, xs, vs, rfl, hs, dd, h⟩ := getA_end r d h
    exact .inl ⟨.ref a, vs.length, rfl, hs.imp (fun h => ⟨vs, h, rfl⟩) (fun h => ⟨vs, h, rfl⟩), by rw [← dd.length]; exact h ι H _ (Ext.refl _ _) r (.int _)⟩
  cases l with
  | tm xs => exact sq h
  | rf d' =>
    cases d' <;> try exact sq h
    case str z =>
      cases d
      simp only [bLen] at h
      split at h
      · rename_i hz
        exact .inl ⟨.str z, z.length, rfl, ⟨of_decide_eq_true hz, rfl⟩, h ι H _ (Ext.refl _ _) r (.int _)⟩
      · exact h.elim
    case ref n =>
      cases d with
      | ref hn =>
        simp only [bLen] at h
        split at h
        · rename_i xs hs
          obtain ⟨vs, q1, q2⟩ := r.lst hs hn
          exact .inl ⟨_, vs.length, rfl, .inl ⟨vs, SqL.of q1, rfl⟩, by rw [← q2.length]; exact h ι H _ (Ext.refl _ _) r (.int _)⟩
        · rename_i kvs hs
          obtain ⟨vs, q1, q2⟩ := r.dK hs hn
          exact .inr ⟨_, vs, rfl, q1, by rw [← q2.length]; exact h ι H _ (Ext.refl _ _) r (.int _)⟩
        · exact h.elim
theorem all_ok : Rd1 X W (rAll X.K) bAll := fun σ H0 H ι0 ι S l v Q e r d h => by
  obtain ⟨a, xs, vs, rfl, hs, dd, h⟩ := getB_end r d h
  obtain ⟨bs, hb, h'⟩ := ofO_end h
  have := blsOf_ok hb
  subst this
  have := dd.bls
  subst this
  exact ⟨a, bs, rfl, hs, h' ι H _ (Ext.refl _ _) r (.bl _)⟩
theorem any_ok : Rd1 X W (rAny X.K) bAny := fun σ H0 H ι0 ι S l v Q e r d h => by
  obtain ⟨a, xs, vs, rfl, hs, dd, h⟩ := getB_end r d h
  obtain ⟨bs, hb, h'⟩ := ofO_end h
  have := blsOf_ok hb
  subst this
  have := dd.bls
  subst this
  exact ⟨a, bs, rfl, hs, h' ι H _ (Ext.refl _ _) r (.bl _)⟩
theorem sum_ok : Rd1 X W (rSum X.K) bSum := fun σ H0 H ι0 ι S l v Q e r d h => by
  obtain ⟨a, xs, vs, rfl, hs, dd, h⟩ := getB_end r d h
  obtain ⟨bs, hb, h'⟩ := ofO_end h
  have := intsOf_ok hb
  subst this
  have := dd.ints
  subst this
  exact ⟨a, bs, rfl, hs, h' ι H _ (Ext.refl _ _) r (.int _)⟩
theorem max_ok : Rd1 X W (rMax X.K) bMax := fun σ H0 H ι0 ι S l v Q e r d h => by
  obtain ⟨a, xs, vs, rfl, hs, dd, h⟩ := getB_end r d h
  obtain ⟨bs, hb, h'⟩ := ofO_end h
  have := intsOf_ok hb
  subst this
  have := dd.ints
  subst this
  split at h'
  · exact h'.elim
  · rename_i hne
    refine ⟨a, bs, rfl, hs, List.length_pos_iff.mpr hne, fun m hm hy => ?_⟩
    have : m = mxI bs := Int.le_antisymm (mxI_le m hm) (hy _ (mxI_mem hne))
    subst this
    exact h' ι H _ (Ext.refl _ _) r (.int _)
theorem min_ok : Rd1 X W (rMin X.K) bMin := fun σ H0 H ι0 ι S l v Q e r d h => by
  obtain ⟨a, xs, vs, rfl, hs, dd, h⟩ := getB_end r d h
  obtain ⟨bs, hb, h'⟩ := ofO_end h
  have := intsOf_ok hb
  subst this
  have := dd.ints
  subst this
  split at h'
  · exact h'.elim
  · rename_i hne
    refine ⟨a, bs, rfl, hs, List.length_pos_iff.mpr hne, fun m hm hy => ?_⟩
    have : m = mnI bs := Int.le_antisymm (hy _ (mnI_mem hne)) (mnI_le m hm)
    subst this
    exact h' ι H _ (Ext.refl _ _) r (.int _)
theorem tuple_ok : Rd1 X W (fun xs H Q => ∃ p ys, xs = [.ref p] ∧ ((SqL X.K H p ys ∧ ∀ l, H l = none → Q (.ref l) (upd H l (.tup ys))) ∨ (SqT X.K H p ys ∧ Q (.ref p) H))) bTuple := fun σ H0 H ι0 ι S l v Q e r d h => by
  cases l with
  | tm xs =>
    obtain ⟨p, vs, rfl, _, hp, d, hn⟩ := d
    exact ⟨p, vs, rfl, .inl ⟨SqL.of hp, fun l hl => ends.tup r d h hl⟩⟩
  | rf d' =>
    cases d' <;> try exact h.elim
    case ref n =>
      cases d with
      | ref hn =>
        simp only [bTuple, getA] at h
        split at h
        · rename_i xs hs
          obtain ⟨vs, q1, q2⟩ := r.lst hs hn
          exact ⟨_, vs, rfl, .inl ⟨SqL.of q1, fun l hl => ends.tup r q2 h hl⟩⟩
        · exact h.elim
    case tup xs =>
      cases d with
      | tup h1 d1 => exact ⟨_, _, rfl, .inr ⟨SqT.of h1, h ι H _ (Ext.refl _ _) r (.tup h1 d1)⟩⟩
    case scr ns =>
      cases d with
      | scr hs => exact ⟨_, _, rfl, .inl ⟨hs.seq, fun l hl => ends.tup r (DVs.of_ints _) h hl⟩⟩
theorem DP.keys {K : PySem.W.Frag} {H : Hp} {ι : List Addr} : ∀ {kvs : List (Key × D)} {kws : List (Key × V)}, DP K H ι kvs kws → DVs K H ι (kvs.map fun p => kD p.1) (kws.map fun kv => kV kv.1)
  | _, _, .nil => .nil
  | _, _, .cons _ t => .cons (kD_ok _) (DP.keys t)
theorem list_ok : Rl1 X W (fun xs H Q => (∃ p ys, xs = [.ref p] ∧ (SqL X.K H p ys ∨ SqT X.K H p ys) ∧ ∀ l, H l = none → Q (.ref l) (upd H l (.lst ys))) ∨ ∃ (a : Addr) (kvs : List (Key × V)), xs = [.ref a] ∧ Rd H a (.dK kvs) ∧ ∀ p, H p = none → Q (.ref p) (upd H p (.lst (kvs.map fun kv => kV kv.1)))) bList := fun σ H0 H ι0 ι S l v Q e r d h => by
  have sq : ends X.K W σ (tmpR X.K H0) H ι Q (getA l S) → ∃ p ys, [v] = [.ref p] ∧ (SqL X.K H p ys ∨ SqT X.K H p ys) ∧ ∀ l, H l = none → Q (.ref l) (upd H l (.lst ys)) := fun h => by
    have h' : ends X.K W σ (tmpR X.K H0) H ι Q ((getA l S).bind fun xs S1 => .ok xs S1) := by
      cases q : getA l S with
      | ok a S1 => rw [q] at h; exact h
      | err _ _ => rw [q] at h; exact h
      | bad => rw [q] at h; exact h
    obtain ⟨a, xs, vs, rfl, hs, dd, h⟩ := getA_end r d h'
    exact ⟨a, vs, rfl, hs, fun l hl => tmp_end e r dd h hl⟩
  cases l with
  | tm xs => exact .inl (sq h)
  | rf d' =>
    cases d' <;> try exact .inl (sq h)
    case ref n =>
      cases d with
      | ref hn =>
        simp only [bList] at h
        split at h
        · rename_i xs hs
          obtain ⟨vs, q1, q2⟩ := r.lst hs hn
          exact .inl ⟨_, vs, rfl, .inl (SqL.of q1), fun l hl => tmp_end e r q2 h hl⟩
        · rename_i kvs hs
          obtain ⟨vs, q1, q2⟩ := r.dK hs hn
          exact .inr ⟨_, vs, rfl, .inl q1, fun l hl => tmp_end e r q2.keys h hl⟩
        · exact h.elim
theorem de_len (c : Ctx X W k N vis loc gls) (ha : PE X e (tLS X.K gl W)) (hm : X.mg "len" = none) (hg : gls.contains ("len" : Str) = true := by decide +kernel) (hs : starEach [e] X.env = (false, eval e X.env) :: starEach [] X.env := by rfl) : PE X (.Call (.Name "len" p) [e] [] pos) (tD X.K (eB1 gl bLen) W) := de_b1 c (call_len.or call_lenD) len_ok ha hm PySem.boot_len hg (by decide +kernel) (by decide +kernel) hs
theorem de_all (c : Ctx X W k N vis loc gls) (ha : PE X e (tLS X.K gl W)) (hm : X.mg "all" = none) (hg : gls.contains ("all" : Str) = true := by decide +kernel) (hs : starEach [e] X.env = (false, eval e X.env) :: starEach [] X.env := by rfl) : PE X (.Call (.Name "all" p) [e] [] pos) (tD X.K (eB1 gl bAll) W) := de_b1 c (cr_all c.calm) all_ok ha hm (by decide +kernel) hg (by decide +kernel) (by decide +kernel) hs
theorem de_any (c : Ctx X W k N vis loc gls) (ha : PE X e (tLS X.K gl W)) (hm : X.mg "any" = none) (hg : gls.contains ("any" : Str) = true := by decide +kernel) (hs : starEach [e] X.env = (false, eval e X.env) :: starEach [] X.env := by rfl) : PE X (.Call (.Name "any" p) [e] [] pos) (tD X.K (eB1 gl bAny) W) := de_b1 c (cr_any c.calm) any_ok ha hm (by decide +kernel) hg (by decide +kernel) (by decide +kernel) hs
theorem de_sum (c : Ctx X W k N vis loc gls) (ha : PE X e (tLS X.K gl W)) (hm : X.mg "sum" = none) (hg : gls.contains ("sum" : Str) = true := by decide +kernel) (hs : starEach [e] X.env = (false, eval e X.env) :: starEach [] X.env := by rfl) : PE X (.Call (.Name "sum" p) [e] [] pos) (tD X.K (eB1 gl bSum) W) := de_b1 c (cr_sum c.calm) sum_ok ha hm (by decide +kernel) hg (by decide +kernel) (by decide +kernel) hs
theorem de_maxL (c : Ctx X W k N vis loc gls) (ha : PE X e (tLS X.K gl W)) (hm : X.mg "max" = none) (hg : gls.contains ("max" : Str) = true := by decide +kernel) (hs : starEach [e] X.env = (false, eval e X.env) :: starEach [] X.env := by rfl) : PE X (.Call (.Name "max" p) [e] [] pos) (tD X.K (eB1 gl bMax) W) := de_b1 c (cr_max c.calm) max_ok ha hm (by decide +kernel) hg (by decide +kernel) (by decide +kernel) hs
theorem de_minL (c : Ctx X W k N vis loc gls) (ha : PE X e (tLS X.K gl W)) (hm : X.mg "min" = none) (hg : gls.contains ("min" : Str) = true := by decide +kernel) (hs : starEach [e] X.env = (false, eval e X.env) :: starEach [] X.env := by rfl) : PE X (.Call (.Name "min" p) [e] [] pos) (tD X.K (eB1 gl bMin) W) := de_b1 c (cr_min c.calm) min_ok ha hm (by decide +kernel) hg (by decide +kernel) (by decide +kernel) hs
theorem de_tuple (c : Ctx X W k N vis loc gls) (ha : PE X e (tLS X.K gl W)) (hm : X.mg "tuple" = none) (hg : gls.contains ("tuple" : Str) = true := by decide +kernel) (hs : starEach [e] X.env = (false, eval e X.env) :: starEach [] X.env := by rfl) : PE X (.Call (.Name "tuple" p) [e] [] pos) (tD X.K (eB1 gl bTuple) W) := de_t1 c call_tuple_of tuple_ok ha hm (by decide +kernel) hg (by decide +kernel) (by decide +kernel) hs
theorem dl_list (c : Ctx X W k N vis loc gls) (ha : PE X e (tLS X.K gl W)) (hm : X.mg "list" = none) (hg : gls.contains ("list" : Str) = true := by decide +kernel) (hs : starEach [e] X.env = (false, eval e X.env) :: starEach [] X.env := by rfl) : PE X (.Call (.Name "list" p) [e] [] pos) (tTm X.K (eB1 gl bList) W) := dl_t1 c (call_list_of.or (call_listD c.calm)) list_ok ha hm (by decide +kernel) hg (by decide +kernel) (by decide +kernel) hs
end
end DL

namespace DL
open PySem PySem.Spec PyProof.Rows L2

/-! ### two arguments -/
def bMin2 (x y : D) (S : Sto) : R D := match x, y with
  | .int i, .int j => .ok (.int (min i j)) S
  | _, _ => .bad
def bMax2 (x y : D) (S : Sto) : R D := match x, y with
  | .int i, .int j => .ok (.int (max i j)) S
  | _, _ => .bad
def eB (fa : Env → Sto → R (List D)) (g : List D → Sto → R D) : Env → Sto → R D := fun env S => (fa env S).bind g
def g2 (g : D → D → Sto → R D) : List D → Sto → R D := fun xs S => match xs with
  | [x, y] => g x y S
  | _ => .bad
def g1 (g : D → Sto → R D) : List D → Sto → R D := fun xs S => match xs with
  | [x] => g x S
  | _ => .bad
/-- what isinstance(x, T) says of a built-in T -/
def tyN (x : D) (S : Sto) : Option String := match x with
  | .non => some "NoneType"
  | .bl _ => some "bool"
  | .int _ => some "int"
  | .str _ => some "str"
  | .tup _ => some "tuple"
  | .scr _ => some "list"
  | .ref n => (match S[n]? with
    | some (.lst _) => some "list"
    | some (.dK _) => some "dict"
    | some (.dT _) => some "dict"
    | _ => none)
  | _ => none
def bIsi (T : String) (x : D) (S : Sto) : R D := (R.ofO ((tyN x S).bind fun t => kitB t T) S).bind fun b S1 => .ok (.bl b) S1
noncomputable def keyD (S : Sto) (d : D) : PyData := (toPy S 12 d).getD .none
open Classical in
noncomputable def bSort (l : LS) (S : Sto) : R (List D) := (getB l S).bind fun xs S1 =>
  if (∀ x ∈ xs, (toPy S1 12 x).isSome = true) ∧ PySem.W.AllAlike (xs.map (keyD S1)) ∧ PySem.W.Sortable (xs.map (keyD S1)) ∧ small xs.length = true ∧ (∀ x ∈ xs, (keyD S1 x).depth ≤ 60) then .ok (xs.mergeSort (PySem.W.dataLe false (keyD S1))) S1 else .bad
section
variable {X : Cx} {W : WX} {k : Nat} {N : List Str} {vis loc : List Nat} {gls : List Str} {e e2 o : Expr} {es : List Expr} {x name : Str} {p pos apos cpos : Pos} {id T : String} {r : List V → Hp → VK → Prop} {gl : Env → Sto → R LS} {fa fo : Env → Sto → R D} {fs : Env → Sto → R (List D)}
def RdN (X : Cx) (W : WX) (r : List V → Hp → VK → Prop) (g : List D → Sto → R D) : Prop := ∀ (σ : St) (H : Hp) (ι : List Addr) (S : Sto) (xs : List D) (vs : List V) (Q : VK), Rep X.K H ι S → DVs X.K H ι xs vs → ends X.K W σ (DV X.K) H ι Q (g xs S) → r vs H Q
theorem de_bN (c : Ctx X W k N vis loc gls) {g : List D → Sto → R D} (hc : CallR X (.builtin id) r) (hr : RdN X W r g) (ha : PA X (e :: es) (tAr X.K fs W)) (hm : X.mg x = none) (hv : bootBuiltins x = some (.builtin id)) (hg : gls.contains x = true) (hn : x ≠ "__name__") (hdb : (x == ("__debug__" : Str)) = false)
    (he : starEach (e :: es) X.env = (false, eval e X.env) :: starEach es X.env := by rfl) (hpl : (backTo pos (starEach es X.env)).any (·.1) = false := by rfl) : PE X (.Call (.Name x p) (e :: es) [] pos) (tD X.K (eB fs g) W) :=
  PE.imp (pe_callB hc (c.hg x (by simpa using hg)) hm hv ha hn hdb he hpl) fun σ H Q ⟨ι, env, S, rp, en, h⟩ => ⟨ι, env, S, rp, en, (ends.bind h).imp fun v H1 ⟨ι1, l, S1, _, e1, r1, d1, h1⟩ => hr σ H1 ι1 S1 l v Q r1 d1 h1⟩
theorem de_tN (c : Ctx X W k N vis loc gls) {g : List D → Sto → R D} (hc : CallR X (.type T) r) (hr : RdN X W r g) (ha : PA X (e :: es) (tAr X.K fs W)) (hm : X.mg x = none) (hv : bootBuiltins x = some (.type T)) (hg : gls.contains x = true) (hn : x ≠ "__name__") (hdb : (x == ("__debug__" : Str)) = false)
    (he : starEach (e :: es) X.env = (false, eval e X.env) :: starEach es X.env := by rfl) (hpl : (backTo pos (starEach es X.env)).any (·.1) = false := by rfl) : PE X (.Call (.Name x p) (e :: es) [] pos) (tD X.K (eB fs g) W) :=
  PE.imp (pe_callTy hc (c.hg x (by simpa using hg)) hm hv ha hn hdb he hpl) fun σ H Q ⟨ι, env, S, rp, en, h⟩ => ⟨ι, env, S, rp, en, (ends.bind h).imp fun v H1 ⟨ι1, l, S1, _, e1, r1, d1, h1⟩ => hr σ H1 ι1 S1 l v Q r1 d1 h1⟩
theorem g2_ok {g : D → D → Sto → R D} (h : ∀ (σ : St) (H : Hp) (ι : List Addr) (S : Sto) (x y : D) (u v : V) (Q : VK), Rep X.K H ι S → DV X.K H ι x u → DV X.K H ι y v → ends X.K W σ (DV X.K) H ι Q (g x y S) → r [u, v] H Q) : RdN X W r (g2 g) := fun σ H ι S xs vs Q rp d q => by
  unfold g2 at q
  split at q
  · rename_i x y
    cases d with
    | cons d1 d2 =>
      cases d2 with
      | cons d2 d3 => cases d3; exact h σ H ι S x y _ _ Q rp d1 d2 q
  · exact q.elim
theorem g1_ok {g : D → Sto → R D} (h : ∀ (σ : St) (H : Hp) (ι : List Addr) (S : Sto) (x : D) (u : V) (Q : VK), Rep X.K H ι S → DV X.K H ι x u → ends X.K W σ (DV X.K) H ι Q (g x S) → r [u] H Q) : RdN X W r (g1 g) := fun σ H ι S xs vs Q rp d q => by
  unfold g1 at q
  split at q
  · rename_i x
    cases d with
    | cons d1 d2 => cases d2; exact h σ H ι S x _ Q rp d1 q
  · exact q.elim
theorem de_max2 (c : Ctx X W k N vis loc gls) (ha : PA X (e :: es) (tAr X.K fs W)) (hm : X.mg "max" = none) (hg : gls.contains ("max" : Str) = true := by decide +kernel) (he : starEach (e :: es) X.env = (false, eval e X.env) :: starEach es X.env := by rfl) (hpl : (backTo pos (starEach es X.env)).any (·.1) = false := by rfl) : PE X (.Call (.Name "max" p) (e :: es) [] pos) (tD X.K (eB fs (g2 bMax2)) W) :=
  de_bN c (call_max2 c.calm) (g2_ok fun σ H ι S x y u v Q rp d1 d2 q => by
    cases d1 <;> cases d2 <;> try exact q.elim
    rename_i i j
    have e : (if j > i then j else i) = max i j := by rw [Int.max_def]; split <;> split <;> omega
    exact ⟨i, j, rfl, e ▸ q ι H _ (Ext.refl _ _) rp (.int _)⟩) ha hm (by decide +kernel) hg (by decide +kernel) (by decide +kernel) he hpl
theorem de_min2 (c : Ctx X W k N vis loc gls) (ha : PA X (e :: es) (tAr X.K fs W)) (hm : X.mg "min" = none) (hg : gls.contains ("min" : Str) = true := by decide +kernel) (he : starEach (e :: es) X.env = (false, eval e X.env) :: starEach es X.env := by rfl) (hpl : (backTo pos (starEach es X.env)).any (·.1) = false := by rfl) : PE X (.Call (.Name "min" p) (e :: es) [] pos) (tD X.K (eB fs (g2 bMin2)) W) :=
  de_bN c (call_min2 c.calm) (g2_ok fun σ H ι S x y u v Q rp d1 d2 q => by
    cases d1 <;> cases d2 <;> try exact q.elim
    rename_i i j
    have e : (if j < i then j else i) = min i j := by rw [Int.min_def]; split <;> split <;> omega
    exact ⟨i, j, rfl, e ▸ q ι H _ (Ext.refl _ _) rp (.int _)⟩) ha hm (by decide +kernel) hg (by decide +kernel) (by decide +kernel) he hpl
theorem de_int1 (c : Ctx X W k N vis loc gls) (ha : PA X (e :: es) (tAr X.K fs W)) (hm : X.mg "int" = none) (hg : gls.contains ("int" : Str) = true := by decide +kernel) (he : starEach (e :: es) X.env = (false, eval e X.env) :: starEach es X.env := by rfl) (hpl : (backTo pos (starEach es X.env)).any (·.1) = false := by rfl) : PE X (.Call (.Name "int" p) (e :: es) [] pos) (tD X.K (eB fs (g1 bInt)) W) :=
  de_tN c call_int1 (g1_ok fun σ H ι S x u Q rp d1 q => by
    cases d1 <;> try exact q.elim
    case bl b => exact .inr ⟨b, rfl, q ι H _ (Ext.refl _ _) rp (.int _)⟩
    case int i => exact .inl ⟨i, rfl, q ι H _ (Ext.refl _ _) rp (.int _)⟩) ha hm (by decide +kernel) hg (by decide +kernel) (by decide +kernel) he hpl
theorem de_str1 (c : Ctx X W k N vis loc gls) (ha : PA X (e :: es) (tAr X.K fs W)) (hm : X.mg "str" = none) (hg : gls.contains ("str" : Str) = true := by decide +kernel) (he : starEach (e :: es) X.env = (false, eval e X.env) :: starEach es X.env := by rfl) (hpl : (backTo pos (starEach es X.env)).any (·.1) = false := by rfl) : PE X (.Call (.Name "str" p) (e :: es) [] pos) (tD X.K (eB fs (g1 bStr)) W) :=
  de_tN c (call_str_int.or SkE.call_str_str) (g1_ok fun σ H ι S x u Q rp d1 q => by
    cases d1 <;> try exact q.elim
    case int i =>
      simp only [bStr] at q
      split at q
      · rename_i h
        exact .inl ⟨i, rfl, h, q ι H _ (Ext.refl _ _) rp (.str _)⟩
      · exact q.elim
    case str z => exact .inr ⟨z, rfl, q ι H _ (Ext.refl _ _) rp (.str _)⟩) ha hm (by decide +kernel) hg (by decide +kernel) (by decide +kernel) he hpl
/-- isinstance(e, T) -/
theorem tyN_ok {H : Hp} {ι : List Addr} {S : Sto} {d : D} {v : V} {t : String} (r : Rep X.K H ι S) (dv : DV X.K H ι d v) (h : tyN d S = some t) : TyX X.K H v (.type t) := by
  cases dv with
  | non => cases h; exact .base .non
  | bl b => cases h; exact .base (.bl b)
  | int i => cases h; exact .base (.int i)
  | str z => cases h; exact .base (.str z)
  | tup h1 d1 => cases h; exact .base (.tup h1)
  | scr hs =>
    cases h
    rcases hs with ⟨o, hs⟩ | ⟨o, its, n, h1, h2, _⟩
    · exact .base (.frz hs)
    · exact .kList h1 h2
  | con v => cases h
  | ref hn =>
    simp only [tyN] at h
    split at h
    · rename_i hs; cases h; obtain ⟨vs, q1, _⟩ := r.lst hs hn; exact .base (.lst q1)
    · rename_i hs; cases h; obtain ⟨vs, q1, _⟩ := r.dK hs hn; exact .base (.dK q1)
    · rename_i hs; cases h; obtain ⟨vs, q1, _⟩ := r.dT hs hn; exact .base (.dT q1)
    · cases h
theorem pe_ty (c : Ctx X W k N vis loc gls) {x : Str} {T : String} (hm : X.mg x = none) (hv : bootBuiltins x = some (.type T)) (hg : gls.contains x = true) (hn : x ≠ "__name__" := by decide +kernel) (hdb : (x == ("__debug__" : Str)) = false := by decide +kernel) : PE X (.Name x p) (tC (.ty T)) :=
  ⟨fun pins s σ H Q I h => ld_blt I (c.hg x (by simpa using hg)) hm hv ⟨.ty T, H, I, rfl, h⟩ hn hdb⟩
theorem de_isi (c : Ctx X W k N vis loc gls) {y : Str} {p2 : Pos} (ha : PE X e (tD X.K fa W)) (hm : X.mg "isinstance" = none) (hy : X.mg y = none) (hv : bootBuiltins y = some (.type T)) (hg : gls.contains ("isinstance" : Str) = true := by decide +kernel) (hgy : gls.contains y = true := by decide +kernel) (hn : y ≠ "__name__" := by decide +kernel) (hdb : (y == ("__debug__" : Str)) = false := by decide +kernel)
    (hs : starEach [e, .Name y p2] X.env = (false, eval e X.env) :: starEach [.Name y p2] X.env := by rfl) (hs2 : starEach [.Name y p2] X.env = (false, eval (.Name y p2) X.env) :: starEach [] X.env := by rfl) (hpl : (backTo pos (starEach [.Name y p2] X.env)).any (·.1) = false := by rfl) :
    PE X (.Call (.Name "isinstance" p) [e, .Name y p2] [] pos) (tD X.K (fun env S => (fa env S).bind (bIsi T)) W) := by
  refine PE.imp (pe_callB call_isi (c.hg "isinstance" (by simpa using hg)) hm (by decide +kernel) (pa_cons ha (pa_cons (pe_ty c hy hv hgy hn hdb) pa_nil hs2) hs) (by decide +kernel) (by decide +kernel) hs hpl) fun σ H Q ⟨ι, env, S, rp, en, h⟩ => ⟨ι, env, S, rp, en, (ends.bind h).imp fun v H1 ⟨ι1, d, S1, _, e1, r1, d1, h1⟩ => ?_⟩
  obtain ⟨b, hb, h2⟩ := ofO_end h1
  cases q : tyN d S1 with
  | none => rw [q] at hb; cases hb
  | some t =>
    rw [q] at hb
    exact ⟨v, .ty T, .type t, .type T, b, rfl, .ty T, tyN_ok r1 d1 q, kit_ty hb, h2 ι1 H1 _ (Ext.refl _ _) r1 (.bl _)⟩

/-! ### sorted(xs) of alike data -/
def rSortD (X : Cx) : List V → Hp → VK → Prop := fun us H Q => ∃ (a : Addr) (bs : List (D × V)) (enc : D → PyData), us = [.ref a] ∧ SqL X.K H a (bs.map (·.2)) ∧ (∀ b ∈ bs, Dp X.K H b.2 (enc b.1)) ∧ PySem.W.AllAlike (bs.map fun b => enc b.1) ∧ PySem.W.Sortable (bs.map fun b => enc b.1) ∧ bs.length ≤ sizeLine ∧ (∀ b ∈ bs, (enc b.1).depth ≤ 60) ∧
  ∀ p, H p = none → Q (.ref p) (upd H p (.lst ((bs.mergeSort (PySem.W.dataLe false fun b => enc b.1)).map (·.2))))
theorem each_of {R : Value → D × V → Prop} : ∀ {bs : List (D × V)} {us : List Value}, Vals (bs.map (·.2)) us → (∀ b ∈ bs, ∀ u, RelV b.2 u → R u b) → PySem.W.EachIs R us bs
  | [], _, .nil, _ => .nil
  | b :: bs, _, .cons r t, h => .cons (h b (by simp) _ r) (each_of t fun b' hb => h b' (List.mem_cons_of_mem _ hb))
theorem vals_of_each : ∀ {bs : List (D × V)} {us : List Value}, PySem.W.EachIs (fun u (b : D × V) => RelV b.2 u) us bs → Vals (bs.map (·.2)) us
  | _, _, .nil => .nil
  | _, _, .cons r t => .cons r (vals_of_each t)
theorem cr_sortD (hu : X.A.units + 65 < cLine) : CallR X (.builtin "sorted") (rSortD X) := by
  intro pins s σ H vs us Q I r h
  obtain ⟨a, bs, enc, rfl, hs, hd, hal, hk, hL, hdp, q⟩ := h
  obtain ⟨its, rv, hl, _⟩ := I.list hs
  rw [Vals.ref1 r]
  refine PySem.W.sorted_data (R := fun u (b : D × V) => RelV b.2 u) (enc := fun b : D × V => enc b.1) hl.isList (each_of rv fun b hb u ru => ru) (each_of rv fun b hb u ru => Dp.reads I _ _ _ (hd b hb) ru) hal hk hL (fun b hb => by have := hdp b hb; omega) fun out ho he => ?_
  obtain ⟨ep, he'⟩ := PyProof.Rows.sortedAll_at s.heap its out.toArray
  have rv2 := vals_of_each he
  have hlen : ((bs.mergeSort (PySem.W.dataLe false fun b => enc b.1)).map (·.2)).length ≤ sizeLine := by rw [List.length_map, List.length_mergeSort]; exact hL
  exact ⟨.ref _, upd H (s.heap.objs.size + 1) (.lst _), I.laid (t' := s.toks) (fun _ _ => PyProof.Rows.sortedAll_old) (Nat.le_succ _) ⟨hlen, out, ep, rv2, he'⟩, rfl, q _ (I.hok.fresh (Nat.le_succ _))⟩
theorem DVs.pairs {K : PySem.W.Frag} {H : Hp} {ι : List Addr} : ∀ {xs : List D} {vs : List V}, DVs K H ι xs vs → ∃ bs : List (D × V), bs.map (·.1) = xs ∧ bs.map (·.2) = vs ∧ ∀ b ∈ bs, DV K H ι b.1 b.2
  | _, _, .nil => ⟨[], rfl, rfl, by simp⟩
  | _, _, @DVs.cons _ _ _ d ds v vs h t => by
    obtain ⟨bs, h1, h2, h3⟩ := DVs.pairs t
    exact ⟨(d, v) :: bs, by simp [h1], by simp [h2], fun b hb => by
      rcases List.mem_cons.mp hb with rfl | hb
      · exact h
      · exact h3 b hb⟩
theorem DVs.of_pairs {K : PySem.W.Frag} {H : Hp} {ι : List Addr} : ∀ {bs : List (D × V)}, (∀ b ∈ bs, DV K H ι b.1 b.2) → DVs K H ι (bs.map (·.1)) (bs.map (·.2))
  | [], _ => .nil
  | b :: bs, h => .cons (h b (by simp)) (DVs.of_pairs fun b hb => h b (List.mem_cons_of_mem _ hb))
theorem sort_ok : Rl1 X W (rSortD X) bSort := fun σ H0 H ι0 ι S l v Q e r d h => by
  obtain ⟨a, xs, vs, rfl, hs, dd, h⟩ := getB_end r d h
  split at h
  case isFalse => exact h.elim
  rename_i hc
  obtain ⟨h1, h2, h3, h4, h5⟩ := hc
  obtain ⟨bs, e1, e2, dp⟩ := dd.pairs
  subst e1 e2
  have km : (bs.map fun b => keyD S b.1) = (bs.map (·.1)).map (keyD S) := by rw [List.map_map]; rfl
  refine ⟨a, bs, keyD S, rfl, hs, fun b hb => ?_, by rw [km]; exact h2, by rw [km]; exact h3, by simpa using of_decide_eq_true h4, fun b hb => h5 _ (List.mem_map_of_mem hb), fun p hp => ?_⟩
  · have q := h1 b.1 (List.mem_map_of_mem hb)
    obtain ⟨y, hy⟩ := Option.isSome_iff_exists.mp q
    have : keyD S b.1 = y := by unfold keyD; rw [hy]; rfl
    rw [this]
    exact toPy_ok r _ _ _ _ (dp b hb) hy
  · have ms : (bs.mergeSort (PySem.W.dataLe false fun b => keyD S b.1)).map (·.1) = (bs.map (·.1)).mergeSort (PySem.W.dataLe false (keyD S)) := List.map_mergeSort fun a _ b _ => rfl
    have dv : DVs X.K H ι ((bs.mergeSort (PySem.W.dataLe false fun b => keyD S b.1)).map (·.1)) ((bs.mergeSort (PySem.W.dataLe false fun b => keyD S b.1)).map (·.2)) := DVs.of_pairs fun b hb => dp b ((List.mergeSort_perm _ _).mem_iff.mp hb)
    rw [ms] at dv
    exact tmp_end e r dv h hp
theorem dl_sorted (c : Ctx X W k N vis loc gls) (ha : PE X e (tLS X.K gl W)) (hm : X.mg "sorted" = none) (hg : gls.contains ("sorted" : Str) = true := by decide +kernel) (hs : starEach [e] X.env = (false, eval e X.env) :: starEach [] X.env := by rfl) : PE X (.Call (.Name "sorted" p) [e] [] pos) (tTm X.K (eB1 gl bSort) W) :=
  dl_b1 c (cr_sortD (by have := c.hr.un; omega)) sort_ok ha hm (by decide +kernel) hg (by decide +kernel) (by decide +kernel) hs
end
end DL

namespace DL
open PySem PySem.Spec PyProof.Rows L2

/-! ### methods of builtins -/
def tyD (T : String) (x : D) (S : Sto) : Bool := match x with
  | .str _ => T == "str"
  | .ref n => (match S[n]? with
    | some (.lst _) => T == "list"
    | some (.dK _) => T == "dict"
    | some (.dT _) => T == "dict"
    | _ => false)
  | _ => false
def eBm (T : String) (fo : Env → Sto → R D) (fa : Env → Sto → R (List D)) (g : D → List D → Sto → R D) : Env → Sto → R D := fun env S => (fo env S).bind fun x S1 => if tyD T x S1 then (fa env S1).bind fun xs S2 => g x xs S2 else .bad
def mAppend (x : D) (xs : List D) (S : Sto) : R D := match x, xs with
  | .ref n, [y] => (match S[n]? with
    | some (.lst l) => if small (l.length + 1) then .ok .non (S.set n (.lst (l ++ [y]))) else .bad
    | _ => .bad)
  | _, _ => .bad
def mInsert (x : D) (xs : List D) (S : Sto) : R D := match x, xs with
  | .ref n, [.int i, y] => (match S[n]? with
    | some (.lst l) => if small (l.length + 1) && (decide (0 ≤ i) && decide (i < 2 ^ 63)) then .ok .non (S.set n (.lst (l.take i.toNat ++ [y] ++ l.drop i.toNat))) else .bad
    | _ => .bad)
  | _, _ => .bad
def mPop (x : D) (xs : List D) (S : Sto) : R D := match x, xs with
  | .ref n, [.int i] => (match S[n]? with
    | some (.lst l) => if decide (-(2 ^ 63) ≤ i) && decide (i < 2 ^ 63) then (match ixN l.length i with
      | some j => (match l[j]? with
        | some y => .ok y (S.set n (.lst (l.eraseIdx j)))
        | none => .bad)
      | none => .bad) else .bad
    | _ => .bad)
  | _, _ => .bad
def mPop0 (x : D) (S : Sto) : R D := match x with
  | .ref n => (match S[n]? with
    | some (.lst l) => (match l[l.length - 1]? with
      | some y => .ok y (S.set n (.lst l.dropLast))
      | none => .bad)
    | _ => .bad)
  | _ => .bad
def eBm0 (T : String) (fo : Env → Sto → R D) (g : D → Sto → R D) : Env → Sto → R D := fun env S => (fo env S).bind fun x S1 => if tyD T x S1 then g x S1 else .bad
def mIndex (x : D) (xs : List D) (S : Sto) : R D := match x, xs with
  | .ref n, [y] => (match S[n]? with
    | some (.lst l) => (match strsOf l, y with
      | some zs, .str z => if z ∈ zs then .ok (.int (zs.idxOf z : Nat)) S else .bad
      | _, _ => .bad)
    | _ => .bad)
  | _, _ => .bad
def mJoin (x : D) (l : LS) (S : Sto) : R D := match x with
  | .str a => (getA l S).bind fun xs S1 => (R.ofO (strsOf xs) S1).bind fun ys S2 => if (ys.map (·.length)).sum + ys.length * a.length ≤ 16777216 then .ok (.str (Txt.join a ys)) S2 else .bad
  | _ => .bad
def eJoin (fo : Env → Sto → R D) (gl : Env → Sto → R LS) : Env → Sto → R D := fun env S => (fo env S).bind fun x S1 => if tyD "str" x S1 then (gl env S1).bind fun l S2 => mJoin x l S2 else .bad
/-- d.get(k), d.get(k, x) -/
def mGet1 (x y : D) (S : Sto) : R D := match x with
  | .ref n => (match dLook n y S with
    | some o => .ok (o.getD .non) S
    | none => .bad)
  | _ => .bad
def mGet2 (x y z : D) (S : Sto) : R D := match x with
  | .ref n => (match dLook n y S with
    | some o => .ok (o.getD z) S
    | none => .bad)
  | _ => .bad
def isDict (x : D) (S : Sto) : Bool := match x with
  | .ref n => (match S[n]? with
    | some (.dK _) => true
    | some (.dT _) => true
    | some (.fK _) => true
    | some (.fT _) => true
    | _ => false)
  | _ => false
def eGet1 (fo fi : Env → Sto → R D) : Env → Sto → R D := fun env S => (fo env S).bind fun x S1 => if isDict x S1 then (fi env S1).bind fun y S2 => mGet1 x y S2 else .bad
def eGet2 (fo fi fz : Env → Sto → R D) : Env → Sto → R D := fun env S => (fo env S).bind fun x S1 => if isDict x S1 then (fi env S1).bind fun y S2 => (fz env S2).bind fun z S3 => mGet2 x y z S3 else .bad
def mDPop (x y : D) (S : Sto) : R D := match x with
  | .ref n => (match S[n]? with
    | some (.dK kvs) => (match keyOf y with
      | some k => (match kGet kvs k with
        | some d => .ok d (S.set n (.dK (kDrop kvs k)))
        | none => .bad)
      | none => .bad)
    | _ => .bad)
  | _ => .bad
def eDPop (fo fi : Env → Sto → R D) : Env → Sto → R D := fun env S => (fo env S).bind fun x S1 => if isDict x S1 then (fi env S1).bind fun y S2 => mDPop x y S2 else .bad
def eDNewK : Env → Sto → R D := fun _ S => .ok (.ref S.length) (S ++ [.dK []])
def eDNewT : Env → Sto → R D := fun _ S => .ok (.ref S.length) (S ++ [.dT []])
section
variable {X : Cx} {W : WX} {k : Nat} {N : List Str} {vis loc : List Nat} {gls : List Str} {e f o : Expr} {es : List Expr} {name : Str} {pos apos cpos : Pos} {T id : String} {r : V → List V → Hp → VK → Prop} {gl : Env → Sto → R LS} {fo fi fz : Env → Sto → R D} {fs : Env → Sto → R (List D)}
theorem tyD_ok {H : Hp} {ι : List Addr} {S : Sto} {d : D} {v : V} (rp : Rep X.K H ι S) (dv : DV X.K H ι d v) (h : tyD T d S = true) : tyV X.K T v H := by
  cases dv with
  | str z => exact eq_of_beq h
  | ref hn =>
    simp only [tyD] at h
    split at h
    · rename_i hs
      obtain ⟨vs, q1, _⟩ := rp.lst hs hn
      exact .inl ⟨eq_of_beq h, vs, SqL.of q1⟩
    · rename_i hs
      obtain ⟨vs, q1, _⟩ := rp.dK hs hn
      exact .inr (.inr (.inl ⟨eq_of_beq h, .inl ⟨vs, q1⟩⟩))
    · rename_i hs
      obtain ⟨vs, q1, _⟩ := rp.dT hs hn
      exact .inr (.inr (.inl ⟨eq_of_beq h, .inr ⟨vs, q1⟩⟩))
    · cases h
  | _ => cases h
def MdN (X : Cx) (W : WX) (r : V → List V → Hp → VK → Prop) (g : D → List D → Sto → R D) : Prop := ∀ (σ : St) (H : Hp) (ι : List Addr) (S : Sto) (x : D) (xs : List D) (v : V) (vs : List V) (Q : VK), Rep X.K H ι S → DV X.K H ι x v → DVs X.K H ι xs vs → ends X.K W σ (DV X.K) H ι Q (g x xs S) → r v vs H Q
theorem de_bm {g : D → List D → Sto → R D} (pa : PlainAttrs T) (slot : Slot T name id) (hty : typeOf (.builtin id) = pure (.type "method_descriptor")) (hm : MtR X id r) (hr : MdN X W r g) (ho : PE X o (tD X.K fo W)) (ha : PA X (e :: es) (tAr X.K fs W))
    (hbase : attributeBase o name X.env (eval o X.env) = eval o X.env := by rfl)
    (hfew : ((backTo cpos (starEach (e :: es) X.env)).all (fun x => !x.1) && (backToKw cpos (keywordEach [] X.env)).all (fun x => x.1.isSome)
      && decide ((e :: es).length + ([] : List Keyword).length + (if ([] : List Keyword).isEmpty then 0 else 1) < 30)) = true := by rfl)
    (hline : (apos.endLine == cpos.line) = true := by rfl) (hs : starEach (e :: es) X.env = (false, eval e X.env) :: starEach es X.env := by rfl) (hplain : (backTo cpos (starEach es X.env)).any (·.1) = false := by rfl) :
    PE X (.Call (.Attribute o name apos) (e :: es) [] cpos) (tD X.K (eBm T fo fs g) W) := by
  refine PE.imp (pe_bm pa slot hty hm ho ha hbase hfew hline hs hplain) fun σ H Q ⟨ι, env, S, rp, en, h⟩ => ⟨ι, env, S, rp, en, (ends.bind h).imp fun v H1 ⟨ι1, x, S1, _, e1, r1, d1, h1⟩ => ?_⟩
  split at h1
  · rename_i ht
    exact ⟨tyD_ok r1 d1 ht, ι1, env, S1, r1, en.mono e1.toGr, (ends.bind h1).imp fun vs H2 ⟨ι2, xs, S2, _, e2, r2, d2, h2⟩ => hr σ H2 ι2 S2 x xs v vs Q r2 (d1.mono e2.toGr) d2 h2⟩
  · exact h1.elim
theorem append_ok : MdN X W rAppend mAppend := fun σ H ι S x xs v vs Q rp dx dxs h => by
  unfold mAppend at h
  split at h
  · rename_i n y
    cases dx with
    | ref hn =>
      cases dxs with
      | cons d1 d2 =>
        cases d2
        split at h
        · rename_i l hs
          split at h
          · rename_i hz
            obtain ⟨us, q1, q2⟩ := rp.lst hs hn
            have z := of_decide_eq_true hz
            refine ⟨_, us, _, rfl, rfl, q1, by rw [← q2.length]; omega, ?_⟩
            exact h ι _ _ (rp.ext_write hs rfl hn _) (rp.write hs rfl hn (.lst (q2.append (.cons d1 .nil)))) .non
          · exact h.elim
        · exact h.elim
  · exact h.elim
theorem insert_ok : MdN X W (fun x vs H Q => ∃ (l : Addr) (xs : List V) (i : Int) (y : V), x = .ref l ∧ vs = [.int i, y] ∧ H l = some (.lst xs) ∧ xs.length < sizeLine ∧ 0 ≤ i ∧ i < 2 ^ 63 ∧ Q .non (upd H l (.lst (xs.take i.toNat ++ [y] ++ xs.drop i.toNat)))) mInsert := fun σ H ι S x xs v vs Q rp dx dxs h => by
  unfold mInsert at h
  split at h
  · rename_i n i y
    cases dx with
    | ref hn =>
      cases dxs with
      | cons d1 d2 =>
        cases d1
        cases d2 with
        | cons d2 d3 =>
          cases d3
          split at h
          · rename_i l hs
            split at h
            · rename_i hz
              simp only [Bool.and_eq_true, decide_eq_true_eq] at hz
              obtain ⟨us, q1, q2⟩ := rp.lst hs hn
              have z := of_decide_eq_true hz.1
              refine ⟨_, us, _, _, rfl, rfl, q1, by rw [← q2.length]; omega, hz.2.1, hz.2.2, ?_⟩
              exact h ι _ _ (rp.ext_write hs rfl hn _) (rp.write hs rfl hn (.lst (((q2.take _).append (.cons d2 .nil)).append (q2.drop _)))) .non
            · exact h.elim
          · exact h.elim
  · exact h.elim
theorem popAt_ok : MdN X W rPopAt mPop := fun σ H ι S x xs v vs Q rp dx dxs h => by
  unfold mPop at h
  split at h
  · rename_i n i
    cases dx with
    | ref hn =>
      cases dxs with
      | cons d1 d2 =>
        cases d1
        cases d2
        split at h
        · rename_i l hs
          split at h
          · rename_i hz
            simp only [Bool.and_eq_true, decide_eq_true_eq] at hz
            split at h
            · rename_i j hj
              split at h
              · rename_i y hy
                obtain ⟨us, q1, q2⟩ := rp.lst hs hn
                obtain ⟨u, e1, e2⟩ := q2.get hy
                have hj' : ixN us.length i = some j := by rw [← q2.length]; exact hj
                obtain ⟨z1, z2, z3, z4⟩ := ixN_seq hj'
                exact ⟨_, us, i, j, u, rfl, rfl, q1, hz.1, hz.2, z1, e1, h ι _ _ (rp.ext_write hs rfl hn _) (rp.write hs rfl hn (.lst (q2.eraseIdx j))) (e2.mono (rp.ext_write hs rfl hn _).toGr)⟩
              · exact h.elim
            · exact h.elim
          · exact h.elim
        · exact h.elim
  · exact h.elim
theorem de_append (ho : PE X o (tD X.K fo W)) (ha : PA X [e] (tAr X.K fs W)) (hbase : attributeBase o "append" X.env (eval o X.env) = eval o X.env := by rfl)
    (hfew : ((backTo cpos (starEach [e] X.env)).all (fun x => !x.1) && (backToKw cpos (keywordEach [] X.env)).all (fun x => x.1.isSome)
      && decide (([e] : List Expr).length + ([] : List Keyword).length + (if ([] : List Keyword).isEmpty then 0 else 1) < 30)) = true := by rfl)
    (hline : (apos.endLine == cpos.line) = true := by rfl) (hs : starEach [e] X.env = (false, eval e X.env) :: starEach [] X.env := by rfl) : PE X (.Call (.Attribute o "append" apos) [e] [] cpos) (tD X.K (eBm "list" fo fs mAppend) W) :=
  de_bm PySem.F.plainAttrs_list PySem.F.slot_list_append PySem.F.type_list_append mt_append append_ok ho ha hbase hfew hline hs rfl
theorem de_insert (ho : PE X o (tD X.K fo W)) (ha : PA X [e, f] (tAr X.K fs W)) (hbase : attributeBase o "insert" X.env (eval o X.env) = eval o X.env := by rfl)
    (hfew : ((backTo cpos (starEach [e, f] X.env)).all (fun x => !x.1) && (backToKw cpos (keywordEach [] X.env)).all (fun x => x.1.isSome)
      && decide (([e, f] : List Expr).length + ([] : List Keyword).length + (if ([] : List Keyword).isEmpty then 0 else 1) < 30)) = true := by rfl)
    (hline : (apos.endLine == cpos.line) = true := by rfl) (hs : starEach [e, f] X.env = (false, eval e X.env) :: starEach [f] X.env := by rfl) (hplain : (backTo cpos (starEach [f] X.env)).any (·.1) = false := by rfl) : PE X (.Call (.Attribute o "insert" apos) [e, f] [] cpos) (tD X.K (eBm "list" fo fs mInsert) W) :=
  de_bm PySem.F.plainAttrs_list PySem.F.slot_list_insert PySem.F.type_list_insert mt_insert insert_ok ho ha hbase hfew hline hs hplain
theorem de_popAt (ho : PE X o (tD X.K fo W)) (ha : PA X [e] (tAr X.K fs W)) (hbase : attributeBase o "pop" X.env (eval o X.env) = eval o X.env := by rfl)
    (hfew : ((backTo cpos (starEach [e] X.env)).all (fun x => !x.1) && (backToKw cpos (keywordEach [] X.env)).all (fun x => x.1.isSome)
      && decide (([e] : List Expr).length + ([] : List Keyword).length + (if ([] : List Keyword).isEmpty then 0 else 1) < 30)) = true := by rfl)
    (hline : (apos.endLine == cpos.line) = true := by rfl) (hs : starEach [e] X.env = (false, eval e X.env) :: starEach [] X.env := by rfl) : PE X (.Call (.Attribute o "pop" apos) [e] [] cpos) (tD X.K (eBm "list" fo fs mPop) W) :=
  de_bm PySem.F.plainAttrs_list PySem.F.slot_list_pop PySem.F.type_list_pop mt_popAt popAt_ok ho ha hbase hfew hline hs rfl
theorem index_ok : MdN X W (rIndex X.K) mIndex := fun σ H ι S x xs v vs Q rp dx dxs h => by
  unfold mIndex at h
  split at h
  · rename_i n y
    cases dx with
    | ref hn =>
      cases dxs with
      | cons d1 d2 =>
        cases d2
        split at h
        · rename_i l hs
          split at h
          · rename_i zs z hzs
            split at h
            · rename_i hm
              obtain ⟨us, q1, q2⟩ := rp.lst hs hn
              have e1 := strsOf_ok hzs
              subst e1
              have e2 := q2.strs
              subst e2
              cases d1
              have hlt := List.idxOf_lt_length_iff.mpr hm
              have hat : zs[List.idxOf z zs]? = some z := by rw [List.getElem?_eq_getElem hlt, List.getElem_idxOf hlt]
              refine ⟨_, zs.map V.str, .str z, zs.idxOf z, .str z, rfl, rfl, SqL.of q1, rfl, by simp [flatV], by rw [List.getElem?_map, hat]; rfl, by simp [eqV], fun m z' hm' hz' => ?_, h ι H _ (Ext.refl _ _) rp (.int _)⟩
              rw [List.getElem?_map] at hz'
              cases q : zs[m]? with
              | none => rw [q] at hz'; cases hz'
              | some y' =>
                rw [q] at hz'
                cases hz'
                have hne : y' ≠ z := fun hh => by
                  subst hh
                  have hml := (List.getElem?_eq_some_iff.mp q).1
                  have := List.not_of_lt_findIdx (p := (· == y')) (xs := zs) (i := m) hm'
                  rw [(List.getElem?_eq_some_iff.mp q).2] at this
                  simp at this
                simp [eqV, hne]
            · exact h.elim
          · exact h.elim
        · exact h.elim
  · exact h.elim
theorem de_lindex (ho : PE X o (tD X.K fo W)) (ha : PA X [e] (tAr X.K fs W)) (hbase : attributeBase o "index" X.env (eval o X.env) = eval o X.env := by rfl)
    (hfew : ((backTo cpos (starEach [e] X.env)).all (fun x => !x.1) && (backToKw cpos (keywordEach [] X.env)).all (fun x => x.1.isSome)
      && decide (([e] : List Expr).length + ([] : List Keyword).length + (if ([] : List Keyword).isEmpty then 0 else 1) < 30)) = true := by rfl)
    (hline : (apos.endLine == cpos.line) = true := by rfl) (hs : starEach [e] X.env = (false, eval e X.env) :: starEach [] X.env := by rfl) : PE X (.Call (.Attribute o "index" apos) [e] [] cpos) (tD X.K (eBm "list" fo fs mIndex) W) :=
  de_bm PySem.F.plainAttrs_list PySem.F.slot_list_index PySem.F.type_list_index mt_index index_ok ho ha hbase hfew hline hs rfl
/-- sep.join(xs) -/
theorem de_join (ho : PE X o (tD X.K fo W)) (ha : PE X e (tLS X.K gl W)) (hbase : attributeBase o "join" X.env (eval o X.env) = eval o X.env := by rfl)
    (hfew : ((backTo cpos (starEach [e] X.env)).all (fun x => !x.1) && (backToKw cpos (keywordEach [] X.env)).all (fun x => x.1.isSome)
      && decide (([e] : List Expr).length + ([] : List Keyword).length + (if ([] : List Keyword).isEmpty then 0 else 1) < 30)) = true := by rfl)
    (hline : (apos.endLine == cpos.line) = true := by rfl) (hs : starEach [e] X.env = (false, eval e X.env) :: starEach [] X.env := by rfl) : PE X (.Call (.Attribute o "join" apos) [e] [] cpos) (tD X.K (eJoin fo gl) W) := by
  refine PE.imp (pe_bm PySem.F.plainAttrs_str PySem.F.slot_str_join PySem.F.type_str_join mt_join ho (pa_cons ha pa_nil hs) hbase hfew hline hs rfl) fun σ H Q ⟨ι, env, S, rp, en, h⟩ => ⟨ι, env, S, rp, en, (ends.bind h).imp fun v H1 ⟨ι1, x, S1, _, e1, r1, d1, h1⟩ => ?_⟩
  split at h1
  · rename_i ht
    refine ⟨tyD_ok r1 d1 ht, ι1, env, S1, r1, en.mono e1.toGr, (ends.bind h1).imp fun u H2 ⟨ι2, l, S2, _, e2, r2, d2, h2⟩ => ?_⟩
    cases d1 with
    | str a =>
      obtain ⟨p, xs, vs, rfl, hs, dd, h3⟩ := getA_end r2 d2 h2
      obtain ⟨ys, hy, h4⟩ := ofO_end h3
      have e3 := strsOf_ok hy
      subst e3
      have e4 := dd.strs
      subst e4
      split at h4
      · rename_i hz
        exact ⟨a, p, ys, rfl, rfl, hs, hz, h4 ι2 H2 _ (Ext.refl _ _) r2 (.str _)⟩
      · exact h4.elim
    | _ => exact h2.elim
  · exact h1.elim
theorem isDict_ok {H : Hp} {ι : List Addr} {S : Sto} {d : D} {v : V} (rp : Rep X.K H ι S) (dv : DV X.K H ι d v) (h : isDict d S = true) : ∃ a, v = .ref a ∧ IsD H a := by
  cases dv with
  | ref hn =>
    simp only [isDict] at h
    split at h
    · rename_i hs; obtain ⟨vs, q1, _⟩ := rp.dK hs hn; exact ⟨_, rfl, .inl ⟨vs, .inl q1⟩⟩
    · rename_i hs; obtain ⟨vs, q1, _⟩ := rp.dT hs hn; exact ⟨_, rfl, .inr ⟨vs, .inl q1⟩⟩
    · rename_i hs; obtain ⟨o, vs, q1, _⟩ := rp.fK hs hn; exact ⟨_, rfl, .inl ⟨vs, .inr ⟨o, q1⟩⟩⟩
    · rename_i hs; obtain ⟨o, vs, q1, _⟩ := rp.fT hs hn; exact ⟨_, rfl, .inr ⟨vs, .inr ⟨o, q1⟩⟩⟩
    · cases h
  | _ => cases h
theorem OV.getD {K : PySem.W.Frag} {H : Hp} {ι : List Addr} {o : Option D} {v : Option V} {d : D} {u : V} (h : OV K H ι o v) (hd : DV K H ι d u) : DV K H ι (o.getD d) (v.getD u) := by
  cases o with
  | none => rw [show v = none from h]; exact hd
  | some x => obtain ⟨w, e, q⟩ := h; rw [e]; exact q
theorem de_get1 (c : Ctx X W k N vis loc gls) (ho : PE X o (tD X.K fo W)) (hi : PE X e (tD X.K fi W)) (m : M1 X o "get" apos e cpos := by exact ⟨rfl, rfl, rfl, rfl⟩) : PE X (.Call (.Attribute o "get" apos) [e] [] cpos) (tD X.K (eGet1 fo fi) W) := by
  have hu : X.A.units + 1 < cLine := by have := c.hr.un; omega
  refine PE.imp (pe_dget1 hu ho hi m) fun σ H Q ⟨ι, env, S, rp, en, h⟩ => ⟨ι, env, S, rp, en, (ends.bind h).imp fun v H1 ⟨ι1, x, S1, _, e1, r1, d1, h1⟩ => ?_⟩
  split at h1
  · rename_i hd
    obtain ⟨a, rfl, isd⟩ := isDict_ok r1 d1 hd
    refine ⟨a, rfl, isd, ι1, env, S1, r1, en.mono e1.toGr, (ends.bind h1).imp fun u H2 ⟨ι2, y, S2, _, e2, r2, d2, h2⟩ => ?_⟩
    cases d1 <;> try exact h2.elim
    rename_i n hn
    simp only [mGet1] at h2
    split at h2
    · rename_i o q
      obtain ⟨o', g, ov⟩ := dLook_ok r2 (e2.get hn) d2 q
      exact ⟨o', g, h2 ι2 H2 _ (Ext.refl _ _) r2 (ov.getD .non)⟩
    · exact h2.elim
  · exact h1.elim
theorem de_get2 (c : Ctx X W k N vis loc gls) (ho : PE X o (tD X.K fo W)) (hi : PE X e (tD X.K fi W)) (hz : PE X f (tD X.K fz W)) (m : M2 X o "get" apos e f cpos := by exact ⟨rfl, rfl, rfl, rfl⟩) : PE X (.Call (.Attribute o "get" apos) [e, f] [] cpos) (tD X.K (eGet2 fo fi fz) W) := by
  have hu : X.A.units + 1 < cLine := by have := c.hr.un; omega
  refine PE.imp (pe_dget2 hu ho hi hz m) fun σ H Q ⟨ι, env, S, rp, en, h⟩ => ⟨ι, env, S, rp, en, (ends.bind h).imp fun v H1 ⟨ι1, x, S1, _, e1, r1, d1, h1⟩ => ?_⟩
  split at h1
  · rename_i hd
    obtain ⟨a, rfl, isd⟩ := isDict_ok r1 d1 hd
    refine ⟨a, rfl, isd, ι1, env, S1, r1, en.mono e1.toGr, (ends.bind h1).imp fun u H2 ⟨ι2, y, S2, _, e2, r2, d2, h2⟩ => ⟨ι2, env, S2, r2, (en.mono e1.toGr).mono e2.toGr, (ends.bind h2).imp fun u3 H3 ⟨ι3, z, S3, _, e3, r3, d3, h3⟩ => ?_⟩⟩
    cases d1 <;> try exact h3.elim
    rename_i n hn
    simp only [mGet2] at h3
    split at h3
    · rename_i o q
      obtain ⟨o', g, ov⟩ := dLook_ok r3 (e3.get (e2.get hn)) (d2.mono e3.toGr) q
      exact ⟨o', g, h3 ι3 H3 _ (Ext.refl _ _) r3 (ov.getD d3)⟩
    · exact h3.elim
  · exact h1.elim
theorem de_dpop (ho : PE X o (tD X.K fo W)) (hi : PE X e (tD X.K fi W)) (m : M1 X o "pop" apos e cpos := by exact ⟨rfl, rfl, rfl, rfl⟩) : PE X (.Call (.Attribute o "pop" apos) [e] [] cpos) (tD X.K (eDPop fo fi) W) := by
  refine PE.imp (pe_dpop1 ho hi m) fun σ H Q ⟨ι, env, S, rp, en, h⟩ => ⟨ι, env, S, rp, en, (ends.bind h).imp fun v H1 ⟨ι1, x, S1, _, e1, r1, d1, h1⟩ => ?_⟩
  split at h1
  · rename_i hd
    obtain ⟨a, rfl, isd⟩ := isDict_ok r1 d1 hd
    refine ⟨a, rfl, isd, ι1, env, S1, r1, en.mono e1.toGr, (ends.bind h1).imp fun u H2 ⟨ι2, y, S2, _, e2, r2, d2, h2⟩ => ?_⟩
    cases d1 <;> try exact h2.elim
    rename_i n hn
    simp only [mDPop] at h2
    split at h2
    · rename_i kvs hs
      split at h2
      · rename_i kk hk
        split at h2
        · rename_i d hg
          obtain ⟨kws, q1, q2⟩ := r2.dK hs (e2.get hn)
          have ov := q2.get kk
          rw [hg] at ov
          obtain ⟨w, e4, dw⟩ := ov
          have ex := r2.ext_write hs rfl (e2.get hn) (.dK (dropK kws kk))
          exact ⟨kws, kk, w, q1, keyOf_ok d2 hk, e4, h2 ι2 _ w ex (r2.write hs rfl (e2.get hn) (.dK q2.drop)) (dw.mono ex.toGr)⟩
        · exact h2.elim
      · exact h2.elim
    · exact h2.elim
  · exact h1.elim
theorem de_dnewK : PE X (.Dict [] [] pos) (tD X.K eDNewK W) := PE.imp pe_dnewK fun σ H Q ⟨ι, env, S, rp, en, h⟩ p hp => ends.new rp (.dK .nil) h hp
theorem de_dnewT : PE X (.Dict [] [] pos) (tD X.K eDNewT W) := PE.imp pe_dnewT fun σ H Q ⟨ι, env, S, rp, en, h⟩ p hp => ends.new rp (.dT .nil) h hp
end
end DL

namespace DL
open PySem PySem.Spec PyProof.Rows L2

/-! ### a dict that is walked is locked -/
def stW : HO → Bool
  | .tup _ => true
  | .frz _ (.lst _) => true
  | _ => false
structure Gw (H : Hp) (ι : List Addr) (H' : Hp) (ι' : List Addr) : Prop where
  pre : ∃ m, ι' = ι ++ m
  kp : ∀ b o, stW o = true → H b = some o → H' b = some o
theorem Gw.get {H H' : Hp} {ι ι' : List Addr} (e : Gw H ι H' ι') {n : Nat} {a : Addr} (h : ι[n]? = some a) : ι'[n]? = some a := by
  obtain ⟨m, rfl⟩ := e.pre
  rw [List.getElem?_append_left (List.getElem?_eq_some_iff.mp h).1]
  exact h
mutual
theorem DV.monoW {K : PySem.W.Frag} {H H' : Hp} {ι ι' : List Addr} (e : Gw H ι H' ι') : ∀ {d : D} {v : V}, DV K H ι d v → DV K H' ι' d v
  | _, _, .non => .non
  | _, _, .bl b => .bl b
  | _, _, .int i => .int i
  | _, _, .str x => .str x
  | _, _, .tup h t => .tup (e.kp _ _ rfl h) (DVs.monoW e t)
  | _, _, .ref h => .ref (e.get h)
  | _, _, .con v => .con v
  | _, _, .scr h => .scr (by
    rcases h with ⟨o, h⟩ | h
    · exact .inl ⟨o, e.kp _ _ rfl h⟩
    · exact .inr h)
theorem DVs.monoW {K : PySem.W.Frag} {H H' : Hp} {ι ι' : List Addr} (e : Gw H ι H' ι') : ∀ {ds : List D} {vs : List V}, DVs K H ι ds vs → DVs K H' ι' ds vs
  | _, _, .nil => .nil
  | _, _, .cons h t => .cons (DV.monoW e h) (DVs.monoW e t)
end
theorem DP.monoW {κ : Type} {K : PySem.W.Frag} {H H' : Hp} {ι ι' : List Addr} (e : Gw H ι H' ι') : ∀ {ds : List (κ × D)} {vs : List (κ × V)}, DP K H ι ds vs → DP K H' ι' ds vs
  | _, _, .nil => .nil
  | _, _, .cons h t => .cons (h.monoW e) (DP.monoW e t)
theorem ObjR.monoW {K : PySem.W.Frag} {H H' : Hp} {ι ι' : List Addr} (e : Gw H ι H' ι') {o : O} {u : HO} (h : ObjR K H ι o u) : ObjR K H' ι' o u := by
  cases h with
  | lst h => exact .lst (h.monoW e)
  | dK h => exact .dK (h.monoW e)
  | dT h => exact .dT (h.monoW e)
  | fK h => exact .fK (h.monoW e)
  | fT h => exact .fT (h.monoW e)
  | ins h => exact .ins (h.monoW e)
theorem EnvR.monoW {K : PySem.W.Frag} {H H' : Hp} {ι ι' : List Addr} {env : Env} {σ : St} (e : EnvR K H ι env σ) (x : Gw H ι H' ι') : EnvR K H' ι' env σ :=
  ⟨e.len, fun i d h => let ⟨v, h1, h2⟩ := e.at_ i d h; ⟨v, h1, h2.monoW x⟩⟩
/-- what is locked, and free again -/
def lockO : O → Option O
  | .dK kvs => some (.fK kvs)
  | .dT kvs => some (.fT kvs)
  | _ => none
def openO : O → Option O
  | .fK kvs => some (.dK kvs)
  | .fT kvs => some (.dT kvs)
  | _ => none
def openS (n : Nat) (S : Sto) : Option Sto := match S[n]? with
  | some o => (match openO o with
    | some o' => some (S.set n o')
    | none => none)
  | none => none
def sLock (loc : Env → Sto → Option Nat) (f : Env → Sto → RS) : Env → Sto → RS := fun env S => match loc env S with
  | some n => (match S[n]? with
    | some o => (match lockO o with
      | some o' => (match f env (S.set n o') with
        | .nx e S1 => (match openS n S1 with | some S2 => .nx e S2 | none => .bad)
        | .bk e S1 => (match openS n S1 with | some S2 => .bk e S2 | none => .bad)
        | .ct e S1 => (match openS n S1 with | some S2 => .ct e S2 | none => .bad)
        | .rt d S1 => (match openS n S1 with | some S2 => .rt d S2 | none => .bad)
        | r => r)
      | none => .bad)
    | none => .bad)
  | none => .bad
def eLock {α : Type} (loc : Env → Sto → Option Nat) (f : Env → Sto → R α) : Env → Sto → R α := fun env S => match loc env S with
  | some n => (match S[n]? with
    | some o => (match lockO o with
      | some o' => (match f env (S.set n o') with
        | .ok d S1 => (match openS n S1 with | some S2 => .ok d S2 | none => .bad)
        | r => r)
      | none => .bad)
    | none => .bad)
  | none => .bad
/-- the dict in slot i -/
def lockV (i : Nat) : Env → Sto → Option Nat := fun env _ => match env[i]? with
  | some (some (.ref n)) => some n
  | _ => none
/-- the dict that is a field of the object in slot i -/
def lockF (i : Nat) (f : Str) : Env → Sto → Option Nat := fun env S => match env[i]? with
  | some (some (.ref n)) => (match S[n]? with
    | some (.ins _ fs) => (match fs.lookup f with
      | some (.ref m) => some m
      | _ => none)
    | _ => none)
  | _ => none
section
variable {K : PySem.W.Frag} {H : Hp} {ι : List Addr} {S : Sto}
def isDO (u : HO) : Prop := (∃ kvs, u = .dK kvs) ∨ ∃ kvs, u = .dT kvs
/-- locking -/
theorem lock_in (r : Rep K H ι S) {n : Nat} {o o' : O} (ho : S[n]? = some o) (hl : lockO o = some o') : ∃ a u, ι[n]? = some a ∧ H a = some u ∧ Mut (some u) ∧ isDO u ∧ ∀ od, Ext H ι (upd H a (.frz od u)) ι ∧ Rep K (upd H a (.frz od u)) ι (S.set n o') := by
  obtain ⟨a, u, ha, hu, q⟩ := r.at ho
  cases q with
  | dK d => cases hl; exact ⟨a, _, ha, hu, trivial, .inl ⟨_, rfl⟩, fun od => ⟨r.ext_write ho rfl ha _, r.write ho rfl ha (.fK d)⟩⟩
  | dT d => cases hl; exact ⟨a, _, ha, hu, trivial, .inr ⟨_, rfl⟩, fun od => ⟨r.ext_write ho rfl ha _, r.write ho rfl ha (.fT d)⟩⟩
  | _ => cases hl
/-- .. and letting go -/
theorem lock_out {H' : Hp} {ι' : List Addr} {S1 S2 : Sto} {n : Nat} {a : Addr} {u : HO} {od : Obj} (ha : ι[n]? = some a) (hu : H a = some u) (su : isDO u) (e : Ext (upd H a (.frz od u)) ι H' ι') (r : Rep K H' ι' S1) (ho : openS n S1 = some S2) :
    H' a = some (.frz od u) ∧ Ext H ι (upd H' a u) ι' ∧ Rep K (upd H' a u) ι' S2 ∧ Gw H' ι' (upd H' a u) ι' := by
  have hf : H' a = some (.frz od u) := e.kp _ _ rfl upd_same
  have st : stable u = false := by rcases su with ⟨kvs, rfl⟩ | ⟨kvs, rfl⟩ <;> rfl
  have gw : Gw H' ι' (upd H' a u) ι' := ⟨⟨[], by simp⟩, fun b o so h => by
    rw [upd_ne]
    · exact h
    · rintro rfl
      rw [hf] at h
      cases h
      rcases su with ⟨kvs, rfl⟩ | ⟨kvs, rfl⟩ <;> cases so⟩
  refine ⟨hf, ?_, ?_, gw⟩
  · refine ⟨⟨e.pre, fun b o so h => ?_⟩, fun b o hb h => ?_, fun b h => ?_, fun b h => ?_⟩
    · have ne : b ≠ a := by
        rintro rfl
        rw [hu] at h
        cases h
        rw [st] at so
        cases so
      rw [upd_ne ne]
      exact e.kp b o so (by rw [upd_ne ne]; exact h)
    · have ne : b ≠ a := by
        rintro rfl
        exact hb (List.mem_of_getElem? ha)
      rw [upd_ne ne]
      exact e.fr b o hb (by rw [upd_ne ne]; exact h)
    · by_cases z : b = a
      · subst z; rw [upd_same]; simp
      · rw [upd_ne z]; exact e.dom b (by rw [upd_ne z]; exact h)
    · rcases e.nw b h with q | q
      · exact .inl q
      · by_cases z : b = a
        · subst z; rw [upd_same] at q; cases q
        · rw [upd_ne z] at q; exact .inr q
  · have ha' := e.get ha
    unfold openS at ho
    split at ho
    · rename_i o hn
      split at ho
      · rename_i o' hop
        cases ho
        refine ⟨by simp [r.len], r.nd, fun m q b h1 h2 => ?_⟩
        by_cases hm : m = n
        · subst hm
          rw [ha'] at h2; cases h2
          have hl : m < S1.length := (List.getElem?_eq_some_iff.mp hn).1
          rw [List.getElem?_set_self hl] at h1
          cases h1
          obtain ⟨v, q1, q2⟩ := r.ob m o a hn ha'
          rw [hf] at q1
          cases q1
          refine ⟨u, upd_same, ?_⟩
          cases q2 with
          | fK d => cases hop; exact .dK (d.monoW gw)
          | fT d => cases hop; exact .dT (d.monoW gw)
        · rw [List.getElem?_set_ne (Ne.symm hm)] at h1
          obtain ⟨v, q1, q2⟩ := r.ob m q b h1 h2
          have hb : b ≠ a := by
            rintro rfl
            exact hm ((List.getElem?_inj (List.getElem?_eq_some_iff.mp h2).1 r.nd).mp (h2.trans ha'.symm))
          exact ⟨v, by rw [upd_ne hb]; exact q1, q2.monoW gw⟩
      · cases ho
    · cases ho
end
section
variable {X : Cx} {W : WX} {st : Stmt} {e : Expr} {f : Env → Sto → RS} {g : Env → Sto → R D} {gl : Env → Sto → R (List D)}
theorem ds_lock (loc : Env → Sto → Option Nat) (h : PS X st (tS X.K f W)) : PS X st (tS X.K (sLock loc f) W) := by
  refine PS.imp (ps_lock h) fun D σ H ⟨ι, env, S, r, en, h⟩ => ?_
  unfold sLock at h
  split at h
  case h_2 => exact h.elim
  rename_i n hn
  split at h
  case h_2 => exact h.elim
  rename_i o ho
  split at h
  case h_2 => exact h.elim
  rename_i o' hl
  obtain ⟨a, u, ha, hu, mu, su, lk⟩ := lock_in r ho hl
  refine ⟨a, u, hu, mu, fun od => ?_⟩
  obtain ⟨e0, r0⟩ := lk od
  refine ⟨ι, env, S.set n o', r0, en.mono e0.toGr, ?_⟩
  cases q : f env (S.set n o') with
  | nx en1 S1 =>
    rw [q] at h
    simp only at h
    intro ι1 H1 σ1 e1 r1 en1
    cases q2 : openS n S1 with
    | none => rw [q2] at h; exact h.elim
    | some S2 =>
      rw [q2] at h
      obtain ⟨z1, z2, z3, z4⟩ := lock_out ha hu su e1 r1 q2
      exact ⟨z1, h ι1 _ σ1 z2 z3 (en1.monoW z4)⟩
  | bk en1 S1 =>
    rw [q] at h
    simp only at h
    intro ι1 H1 σ1 e1 r1 en1
    cases q2 : openS n S1 with
    | none => rw [q2] at h; exact h.elim
    | some S2 =>
      rw [q2] at h
      obtain ⟨z1, z2, z3, z4⟩ := lock_out ha hu su e1 r1 q2
      exact ⟨z1, h ι1 _ σ1 z2 z3 (en1.monoW z4)⟩
  | ct en1 S1 =>
    rw [q] at h
    simp only at h
    intro ι1 H1 σ1 e1 r1 en1
    cases q2 : openS n S1 with
    | none => rw [q2] at h; exact h.elim
    | some S2 =>
      rw [q2] at h
      obtain ⟨z1, z2, z3, z4⟩ := lock_out ha hu su e1 r1 q2
      exact ⟨z1, h ι1 _ σ1 z2 z3 (en1.monoW z4)⟩
  | rt d S1 =>
    rw [q] at h
    simp only at h
    intro ι1 H1 v e1 r1 dv
    cases q2 : openS n S1 with
    | none => rw [q2] at h; exact h.elim
    | some S2 =>
      rw [q2] at h
      obtain ⟨z1, z2, z3, z4⟩ := lock_out ha hu su e1 r1 q2
      exact ⟨z1, h ι1 _ v z2 z3 (dv.monoW z4)⟩
  | err x en1 S1 =>
    rw [q] at h
    exact fun ι1 H1 cls dd σ1 e1 r1 en1 xr => h ι1 H1 cls dd σ1 (e0.trans e1) r1 en1 xr
  | bad => rw [q] at h; exact h.elim
theorem eLock_ok {β α : Type} {rel0 rel : Rl α β} {K : PySem.W.Frag} {g : Env → Sto → R α} {loc : Env → Sto → Option Nat} {σ : St} {H : Hp} {ι : List Addr} {env : Env} {S : Sto} {Q : β → Hp → Prop} (r : Rep K H ι S) (en : EnvR K H ι env σ) (h : ends K W σ rel H ι Q (eLock loc g env S))
    (hrel : ∀ a H' ι' u d v, a ∈ ι' → (∃ od, H' a = some (.frz od u)) → isDO u → Gw H' ι' (upd H' a u) ι' → rel0 H' ι' d v → rel (upd H' a u) ι' d v) :
    ∃ d u, H d = some u ∧ Mut (some u) ∧ ∀ od, tG K rel0 g W σ (upd H d (.frz od u)) fun v H' => H' d = some (.frz od u) ∧ Q v (upd H' d u) := by
  unfold eLock at h
  split at h
  case h_2 => exact h.elim
  rename_i n hn
  split at h
  case h_2 => exact h.elim
  rename_i o ho
  split at h
  case h_2 => exact h.elim
  rename_i o' hl
  obtain ⟨a, u, ha, hu, mu, su, lk⟩ := lock_in r ho hl
  refine ⟨a, u, hu, mu, fun od => ?_⟩
  obtain ⟨e0, r0⟩ := lk od
  refine ⟨ι, env, S.set n o', r0, en.mono e0.toGr, ?_⟩
  cases q : g env (S.set n o') with
  | ok d S1 =>
    rw [q] at h
    simp only at h
    intro ι1 H1 v e1 r1 dv
    cases q2 : openS n S1 with
    | none => rw [q2] at h; exact h.elim
    | some S2 =>
      rw [q2] at h
      obtain ⟨z1, z2, z3, z4⟩ := lock_out ha hu su e1 r1 q2
      exact ⟨z1, h ι1 _ v z2 z3 (hrel a H1 ι1 u d v (List.mem_of_getElem? (e1.get ha)) ⟨od, z1⟩ su z4 dv)⟩
  | err x S1 =>
    rw [q] at h
    exact fun ι1 H1 cls dd e1 r1 xr => h ι1 H1 cls dd (e0.trans e1) r1 xr
  | bad => rw [q] at h; exact h.elim
theorem de_lock (loc : Env → Sto → Option Nat) (h : PE X e (tD X.K g W)) : PE X e (tD X.K (eLock loc g) W) :=
  PE.imp (pe_lock h) fun σ H Q ⟨ι, env, S, r, en, h⟩ => eLock_ok r en h fun a H' ι' u d v _ _ _ z dv => dv.monoW z
theorem dl_lock (loc : Env → Sto → Option Nat) (h : PE X e (tTm X.K gl W)) : PE X e (tTm X.K (eLock loc gl) W) := by
  refine PE.imp (pe_lock h) fun σ H Q ⟨ι, env, S, r, en, h⟩ => ?_
  obtain ⟨d, u, hu, mu, k⟩ := eLock_ok (rel0 := tmpR X.K H) r en h fun a H' ι' u d v ha hf su z ⟨p, vs, ev, h0, hp, dd, hn⟩ => by
    have ne : p ≠ a := fun z => hn (z ▸ ha)
    exact ⟨p, vs, ev, h0, by rw [upd_ne ne]; exact hp, dd.monoW z, hn⟩
  refine ⟨d, u, hu, mu, fun od => ?_⟩
  obtain ⟨ι1, env1, S1, r1, en1, q⟩ := k od
  refine ⟨ι1, env1, S1, r1, en1, ?_⟩
  have ne : ∀ p, (upd H d (.frz od u)) p = none → H p = none := fun p hp => by
    by_cases z : p = d
    · subst z; rw [upd_same] at hp; cases hp
    · rw [upd_ne z] at hp; exact hp
  cases q2 : gl env1 S1 with
  | ok xs S2 =>
    rw [q2] at q
    exact fun ι' H' v e p ⟨a, vs, ev, h0, hp, dd, hn⟩ => q ι' H' v e p ⟨a, vs, ev, ne a h0, hp, dd, hn⟩
  | err x S2 => rw [q2] at q; exact q
  | bad => rw [q2] at q; exact q
end
end DL

namespace DL
open PySem PySem.Spec PyProof.Rows L2

/-! ### own __len__, __str__, __eq__: what the builtins do with them -/
section
variable {prog : Program} {w : World} {A : Around} {E : Value → Shared → Prop} {s : Shared} {K : PySem.W.Frag} {x C f : Addr} {ox : Obj} {od : Option Obj}
theorem len_own {Q : Value → Shared → Prop} (X : K.In s.heap) (I : PySem.W.InstAt s.heap x ox C od) (hs : PySem.W.findIn K (.ref C) "__len__" = some (some (.ref f))) (hf : PySem.W.isFn K (.ref f) = true)
    (h : wpAny (model prog w) A.in1 (call (.ref f) [.ref x]) (fun r s₁ => ∃ (n : Int) (u : Tok), r = Value.int n u ∧ 0 ≤ n ∧ n < 2 ^ 63 ∧ ∀ t tk, Q (.int n t) { s₁ with toks := tk }) E s) : wpAny (model prog w) A (call (.builtin "len") [.ref x]) Q E s := by
  refine Calls.call_function_entry kind_len plain_len entry_len (args_len1 _) ?_
  unfold Builtin.«len»
  refine wpAny_bind (m := oneArg "len" _) (wpAny_pure ?_)
  refine wpAny_bind (m := callSpecial? (.ref x) (PySem.Str.ofString "__len__")) (PySem.W.special_fn X I hs (beq_iff_eq.mp hf) (wpAny_mono h (fun r s' hr => ?_) fun _ _ y => y))
  obtain ⟨n, u, rfl, h0, h1, q⟩ := hr
  refine wpAny_bind (wpAny_holding (wpAny_pure ?_))
  refine wpAny_bind (wpAny_letGo ?_)
  show wpAny _ _ (if n < 0 then _ else _) _ _ _
  rw [if_neg (by omega)]
  show wpAny _ _ (if n ≥ 2 ^ 63 then _ else _) _ _ _
  rw [if_neg (by omega)]
  exact wpAny_bind (wpAny_mkInt (wpAny_pure ⟨_, rfl, q _ _⟩))
theorem str_own {Q : Value → Shared → Prop} (hu : A.units + 4 < cLine) (X : K.In s.heap) (I : PySem.W.InstAt s.heap x ox C od) (hs : PySem.W.findIn K (.ref C) "__str__" = some (some (.ref f))) (hf : PySem.W.isFn K (.ref f) = true)
    (h : wpAny (model prog w) A.in1.in1 (call (.ref f) [.ref x]) (fun r s₁ => ∃ y u, r = Value.str y u ∧ Q r s₁) E s) : wpAny (model prog w) A (call (.type "str") [.ref x]) Q E s := by
  refine callType_codes (T := "str") (Bi := Builtin.«object.__init__») (Q₁ := fun r s₁ => ∃ y u, r = Value.str y u ∧ Q r s₁) PySem.F.called_str (PySem.F.typeCall_str_1 _) PySem.F.entry_object_init ?_ ?_
  · refine codeAny_of_tree ?_
    show wpAny _ A.in1.in1 (do checkBuiltinCall "str.__new__" ⟨[.type "str", .ref x], []⟩; again (.builtin "str.__new__" ⟨[.type "str", .ref x], []⟩)) _ _ s
    refine wpAny_bind (wpAny_of_eq (PySem.F.newCall_str_1 _) (wpAny_pure ⟨plainId_quiet (by decide +kernel) _, codeAny_builtin PySem.F.entry_str_new ?_⟩))
    rw [Around.under_plainId (by decide +kernel) _]
    rw [str_new_tree]
    refine wpAny_bind (wpAny_pure ?_)
    refine wpAny_bind (wpAny_of_eq isSubtype_str_str ?_)
    refine wpAny_bind ?_
    unfold Builtin.Str.strOf
    refine PySem.W.KFB.if_not (c := Builtin.Str.isExactStr (Value.ref x)) rfl ?_
    refine wpAny_bind (wpAny_cRoomFor (by show A.units + 1 + 1 < cLine; omega) ?_)
    refine wpAny_bind (m := callSpecial? (.ref x) (PySem.Str.ofString "__str__")) (PySem.W.special_fn X I hs (beq_iff_eq.mp hf) (wpAny_mono h (fun r s' hr => ?_) fun _ _ y => y))
    obtain ⟨y, u, rfl, q⟩ := hr
    first
      | exact wpAny_pure (wpAny_pure ⟨y, u, rfl, q⟩)
      | exact wpAny_bind (wpAny_pure (wpAny_pure (wpAny_pure ⟨y, u, rfl, q⟩)))
  · rintro obj s₁ ⟨y, u, rfl, hq⟩
    exact ⟨typeIs_str _ _ _, PySem.F.args_object_init_2 _ _, object_init_meets PySem.F.called_str.init.lookup PySem.F.called_str.made (by decide) prog w A.in1 _ s₁ ⟨typeIs_str _ _ _, rfl, hq⟩⟩
/-- x != b by an own __eq__ -/
theorem ne_own {h₀ : Heap} {L : Addr} {m : Str → Option Value} {b tb : Value} {Q : Value → Shared → Prop} (hu : A.units + 4 < cLine) (F : Fr h₀ L s.heap m) (X₀ : K.In h₀) (I : PySem.W.InstAt s.heap x ox C od) (hb : PySem.W.Looks (model prog w) s.heap (typeOf b) tb) (hn : PySem.W.notFirst K C tb = true)
    (hs : PySem.W.findIn K (.ref C) "__eq__" = some (some (.ref f))) (hf : PySem.W.isFn K (.ref f) = true) (hne : PySem.W.findIn K (.ref C) "__ne__" = some (some (.builtin "object.__ne__"))) (hm : PySem.W.mroIn K C (.type "object") = some true)
    (h : wpAny (model prog w) A.in1 (call (.ref f) [.ref x, b]) (fun r s₁ => ∃ c : Bool, r = .bool c ∧ Q (.bool (!c)) s₁) E s) : wpAny (model prog w) A (richCompare .NotEq (.ref x) b) Q E s := by
  have X := X₀.keeps F.keep
  have inst : PySem.W.Looks (model prog w) s.heap (isInstance (.ref x) (.type "object")) true := I.type.andThen (PySem.W.looks_mroIn X hm)
  have nb : wpAny (model prog w) A (call (.builtin "object.__ne__") [.ref x, b]) (fun r s₁ => ∃ c : Bool, r = .bool (!c) ∧ Q (.bool (!c)) s₁) E s := by
    refine wpAny_call (codeAny_call_builtin PySem.F.cmp_object.ne.plain PySem.F.cmpEntry_ne (@PySem.W.check_slot (model prog w) _ _ _ "object.__ne__" "object" "__ne__" (.ref x) [b] [] _ PySem.F.cmpKind_ne PySem.F.cmpSplit_ne inst (PySem.F.cmpArgs_ne _ _) ?_))
    unfold Builtin.«object.__ne__»
    refine wpAny_bind (m := slotArgs "__ne__" 1 _) (wpAny_pure ?_)
    refine wpAny_bind (wpAny_cRoomFor (by show A.units + 1 < cLine; omega) ?_)
    refine wpAny_bind (PySem.W.ifBound_K X I hs hf (wpAny_mono h (fun r s' hr => ?_) fun _ _ y => y))
    obtain ⟨c, rfl, q⟩ := hr
    show wpAny _ _ (truthy (.bool c) >>= _) _ _ _
    exact wpAny_bind (wpAny_truthy_bool (wpAny_pure ⟨c, rfl, q⟩))
  have one : wpAny (model prog w) A (tryCompare (.ref x) "__ne__" b) (fun r s' => ∃ v, r = some v ∧ Q v s') E s := by
    unfold tryCompare
    have sp : PySem.W.Looks (model prog w) s.heap (specialOf (.ref x) "__ne__") (some (.builtin "object.__ne__")) := I.type.andThen (PySem.W.looks_findIn X hne)
    refine wpAny_bind (NtL.csib sp (PySem.F.cmp_object.ne.bind _) (wpAny_mono nb (fun v s' hv => ?_) fun _ _ e => e))
    obtain ⟨c, rfl, q⟩ := hv
    exact wpAny_pure ⟨_, rfl, q⟩
  unfold richCompare
  simp only [oneThing_ref]
  refine wpAny_holding (wpAny_bind (wpAny_cRoomFor (by omega) ?_))
  refine wpAny_bind (I.type.here (wpAny_bind (hb.here ?_)))
  split
  · rename_i q
    have e : PySem.W.subIn K tb (.ref C) = some false := by
      rcases Bool.or_eq_true_iff.mp hn with e | e
      · rw [beq_iff_eq.mp e] at q; simp at q
      · exact beq_iff_eq.mp e
    refine wpAny_bind ((PySem.W.looks_subIn X e).here ?_)
    simp only [Bool.false_eq_true, if_false]
    refine wpAny_bind (wpAny_mono one (fun r s' z => ?_) fun _ _ e => e)
    obtain ⟨v, rfl, hq⟩ := z
    exact wpAny_pure hq
  · refine wpAny_bind (wpAny_pure ?_)
    simp only [Bool.false_eq_true, if_false]
    refine wpAny_bind (wpAny_mono one (fun r s' z => ?_) fun _ _ e => e)
    obtain ⟨v, rfl, hq⟩ := z
    exact wpAny_pure hq
end
end DL

namespace DL
open PySem PySem.Spec PyProof.Rows L2

/-! ### instances: ==, !=, str, len, made, called -/
theorem looks_ty {M : Model} {s : Shared} {v : Value} {T : String} (h : s.TypeIs v T) : PySem.W.Looks M s.heap (typeOf v) (.type T) := by
  cases v with
  | ref a =>
    obtain ⟨o, ho, hc⟩ := h
    exact hc ▸ (PySem.W.Looks.ld ho).andThen .now
  | _ => exact PySem.W.Looks.of_pure h
/-- what the class at C has beside its own defs -/
structure OwnC (K : PySem.W.Frag) (C : Addr) : Prop where
  cl : Cls K C
  ca : PySem.W.findIn K (.ref C) "__class__" = some (some (.builtin "object.__class__"))
  cn : PySem.W.specialIn K (.builtin "object.__class__") "__get__" = some (some (.builtin "getset_descriptor.__get__"))
  ct : PySem.W.takesIn K (.builtin "object.__class__") = some true
  mro : PySem.W.mroIn K C (.type "object") = some true
  ne : PySem.W.findIn K (.ref C) "__ne__" = some (some (.builtin "object.__ne__"))
def nfT (T : String) : Bool := match PySem.fastBuiltinMro T with
  | some l => l.all fun v => match v with | .type _ => true | _ => false
  | none => false
theorem notFirst_of {K : PySem.W.Frag} {C : Addr} {T : String} (h : nfT T = true) : PySem.W.notFirst K C (.type T) = true := by
  unfold nfT at h
  unfold PySem.W.notFirst PySem.W.subIn
  cases q : PySem.fastBuiltinMro T with
  | none => rw [q] at h; cases h
  | some l =>
    rw [q] at h
    have : l.contains (Value.ref C) = false := by
      rw [List.contains_eq_any_beq, List.any_eq_false]
      intro v hv
      have := List.all_eq_true.mp h v hv
      cases v <;> simp at this
      simp
    show (_ || (Option.map (fun z => z.contains (Value.ref C)) (PySem.fastBuiltinMro T)) == some false) = true
    rw [q, Option.map_some, this]
    simp
/-- how == goes where the left one is an instance of C -/
def tyEq (C : Addr) (y : D) (S : Sto) : Bool := match y with
  | .ref n => (match S[n]? with
    | some (.ins C' _) => decide (C' = C)
    | _ => (match tyN y S with
      | some T => nfT T
      | none => false))
  | y => (match tyN y S with
    | some T => nfT T
    | none => false)
def insOf (C : Addr) (x : D) (S : Sto) : Bool := match x with
  | .ref n => (match S[n]? with
    | some (.ins C' _) => decide (C' = C)
    | _ => false)
  | _ => false
def onBl (neg : Bool) (r : R D) : R D := r.bind fun d S1 => match d with
  | .bl b => .ok (.bl (if neg then !b else b)) S1
  | _ => .bad
def dEqC (C : Addr) (g : Fn) (x y : D) (S : Sto) : R D := if insOf C x S then (if tyEq C y S then onBl false (g [x, y] S) else .bad) else dEq x y S
def dNeC (C : Addr) (g : Fn) (x y : D) (S : Sto) : R D := if insOf C x S then (if tyEq C y S then onBl true (g [x, y] S) else .bad) else dNe x y S
section
variable {M : Mod} {X : Cx} {W : WX} {k j : Nat} {N : List Str} {vis loc : List Nat} {gls : List Str} {e o : Expr} {es : List Expr} {x m : Str} {p pos apos cpos : Pos} {n : Nat} {g : Fn} {fa : Env → Sto → R (List D)} {fo : Env → Sto → R D} {C : Addr}
theorem tyIs_ok {pins : List (Addr × Obj)} {s : Shared} {σ : St} {H : Hp} {ι : List Addr} {S : Sto} {d : D} {v : V} {u : Value} {t : String} (I : Inv X pins σ H s) (r : Rep X.K H ι S) (dv : DV X.K H ι d v) (rv : RelV v u) (h : tyN d S = some t) : s.TypeIs u t := by
  cases dv with
  | non => cases h; cases (show u = Value.none from rv); exact typeIs_none s
  | bl b => cases h; cases (show u = Value.bool b from rv); exact PySem.typeIs_bool s b
  | int i => cases h; obtain ⟨tk, rfl⟩ := rv; exact typeIs_int s i tk
  | str z => cases h; obtain ⟨tk, rfl⟩ := rv; exact typeIs_str s z tk
  | tup h1 d1 =>
    cases h
    cases rv
    obtain ⟨its, rr, ⟨o, e, c, n, dd⟩, hz⟩ := I.tuple (SqT.of h1)
    exact ⟨o, e, c⟩
  | scr hs =>
    cases h
    cases rv
    obtain ⟨its, rr, pl, hz⟩ := I.list hs.seq
    exact pl.isList.typeIs
  | con v => cases h
  | ref hn =>
    simp only [tyN] at h
    split at h
    · rename_i hs
      cases h
      cases rv
      obtain ⟨vs, q1, _⟩ := r.lst hs hn
      obtain ⟨its, rr, pl, hz⟩ := I.list (SqL.of q1)
      exact pl.isList.typeIs
    · rename_i hs
      cases h
      cases rv
      obtain ⟨vs, q1, _⟩ := r.dK hs hn
      exact (isD_at I (.inl ⟨vs, .inl q1⟩)).1
    · rename_i hs
      cases h
      cases rv
      obtain ⟨vs, q1, _⟩ := r.dT hs hn
      exact (isD_at I (.inr ⟨vs, .inl q1⟩)).1
    · cases h
/-- the type of the other one, and that it is not to be asked first -/
theorem tyEq_ok {pins : List (Addr × Obj)} {s : Shared} {σ : St} {H : Hp} {ι : List Addr} {S : Sto} {d : D} {v : V} {u : Value} (I : Inv X pins σ H s) (r : Rep X.K H ι S) (dv : DV X.K H ι d v) (rv : RelV v u) (h : tyEq C d S = true) : ∃ tb, PySem.W.Looks (model X.prog X.w) s.heap (typeOf u) tb ∧ PySem.W.notFirst X.K C tb = true := by
  have bt : (match tyN d S with | some T => nfT T | none => false) = true → ∃ tb, PySem.W.Looks (model X.prog X.w) s.heap (typeOf u) tb ∧ PySem.W.notFirst X.K C tb = true := fun h => by
    cases q : tyN d S with
    | none => rw [q] at h; cases h
    | some T =>
      rw [q] at h
      exact ⟨_, looks_ty (tyIs_ok I r dv rv q), notFirst_of h⟩
  cases d with
  | ref n =>
    simp only [tyEq] at h
    split at h
    · rename_i C' fs hs
      have := of_decide_eq_true h
      subst this
      cases dv with
      | ref hn =>
        cases rv
        obtain ⟨dx, gs, e1, _⟩ := r.ins hs hn
        obtain ⟨mA, J, _⟩ := ins_get I.hok e1
        obtain ⟨od, J, _⟩ := J.look
        exact ⟨.ref C', J.type, by simp [PySem.W.notFirst]⟩
    · exact bt h
  | _ => exact bt h
/-- the callee, called from within -/
theorem run_at' {A : Around} {f : Addr} {fd : FuncData} {ps : List Str} {pins : List (Addr × Obj)} {σ : St} {H : Hp} {s : Shared} {Q : VK} {us : List Value} {vs : List V} {E : XK} {sp : Sp} (F : FnOk X.prog X.w X.K X.mg X.base (L2N.CX X.prog X.w) j f fd ps sp) (hr : Room j A) (e0 : Env0 X.prog X.w X.K X.mg X.base A X.stack s H) (hb : Binds X.K fd ps []) (hx : PassesAt (L2N.CX X.prog X.w) X σ E)
    (I : Inv X pins σ H s) (r : Vals vs us) (h : sp vs H Q E) : wpAny (model X.prog X.w) A (call (.ref f) us) (EP X pins σ Q) X.xe s := by
  have hl : us.length = ps.length := by rw [← r.length]; exact F.len _ _ _ _ h
  have b := hb s us I.kIn (by rw [List.append_nil]; exact hl)
  rw [List.append_nil] at b
  refine wpAny_call (codeAny_mono (F.run A X.stack s H ⟨us, []⟩ us vs Q E hr e0 b r h) fun r s' hq => ?_)
  cases r with
  | error e => exact hx pins H s e s' I hq
  | ok fl =>
    cases fl with
    | ret u => exact I.after hq
    | next => exact False.elim hq
    | brk => exact False.elim hq
    | cont => exact False.elim hq
theorem insOf_ok {H : Hp} {ι : List Addr} {S : Sto} {d : D} {v : V} (r : Rep X.K H ι S) (dv : DV X.K H ι d v) (h : insOf C d S = true) : ∃ a dx gs, v = .ref a ∧ H a = some (.ins C dx gs) := by
  cases dv with
  | ref hn =>
    simp only [insOf] at h
    split at h
    · rename_i C' fs hs
      have := of_decide_eq_true h
      subst this
      obtain ⟨dx, gs, e1, _⟩ := r.ins hs hn
      exact ⟨_, dx, gs, rfl, e1⟩
    · cases h
  | _ => cases h
theorem onBl_end {K : PySem.W.Frag} {H : Hp} {ι : List Addr} {σ : St} {Q : VK} {neg : Bool} {r : R D} (h : ends K W σ (DV K) H ι Q (onBl neg r)) :
    ends K W σ (DV K) H ι (fun v H1 => ∃ b ι1 S1, v = .bl b ∧ Ext H ι H1 ι1 ∧ Rep K H1 ι1 S1 ∧ Q (.bl (if neg then !b else b)) H1) r :=
  (ends.bind (rel := DV K) h).imp fun v H1 ⟨ι1, d, S1, _, e1, r1, d1, h1⟩ => by
    cases d1 with
    | bl b => exact ⟨b, ι1, S1, rfl, e1, r1, h1 ι1 H1 _ (Ext.refl _ _) r1 (.bl _)⟩
    | _ => exact h1.elim
theorem cd_eqC (c : Ctx X W k N vis loc gls) (md : Md M X) (cl : Me M j C "__eq__" 2 g) (hj : j ≤ k) : OpD X W (compareOp .Eq) (dEqC C g) := fun pins s σ H ι S x y x' y' u v Q I r dx dy rx ry h => by
  unfold dEqC at h
  split at h
  · rename_i hx
    split at h
    · rename_i hy
      obtain ⟨f, fd, ps, F, hb, hc, hm⟩ := cl.to md
      obtain ⟨a, dxx, gs, rfl, ea⟩ := insOf_ok r dx hx
      obtain ⟨tb, lk, nf⟩ := tyEq_ok (C := C) I r dy ry hy
      cases rx
      obtain ⟨mA, J, _⟩ := ins_get I.hok ea
      obtain ⟨od, J, _⟩ := J.look
      obtain ⟨m, hF⟩ := I.fr
      show wpAny (model X.prog X.w) X.A (richCompare .Eq (.ref a) v) _ _ _
      refine PySem.W.cmp_K (op := .Eq) (tb := tb) c.hr.units0 hF I.ok.mod.kin J lk nf hm.at_ hm.fn ?_
      refine wpAny_mono (run_fnSD (us := [.ref a, v]) (vs := [.ref a, y']) (dvs := []) F (c.hr.mono hj) hb .nil (L2N.passAt c.tk σ) I (.cons rfl (.cons ry .nil)) (Q := fun z H1 => ∃ b ι1 S1, z = .bl b ∧ Ext H ι H1 ι1 ∧ Rep X.K H1 ι1 S1 ∧ Q (.bl b) H1) ?_) (fun w s' ⟨z, H', I', rz, b, ι1, S1, ez, _, _, q⟩ => ?_) fun _ _ x => x
      · exact ⟨ι, [x, y], S, rfl, r, .cons dx (.cons dy .nil), ends_slots (onBl_end h)⟩
      · subst ez
        cases rz
        exact ⟨.bl b, H', I', rfl, q⟩
    · exact h.elim
  · exact cd_eq c pins s σ H ι S x y x' y' u v Q I r dx dy rx ry h
theorem cd_neC (c : Ctx X W k N vis loc gls) (md : Md M X) (cl : Me M j C "__eq__" 2 g) (ow : OwnC X.K C) (hj : j + 1 ≤ k) : OpD X W (compareOp .NotEq) (dNeC C g) := fun pins s σ H ι S x y x' y' u v Q I r dx dy rx ry h => by
  unfold dNeC at h
  split at h
  · rename_i hx
    split at h
    · rename_i hy
      obtain ⟨f, fd, ps, F, hb, hc, hm⟩ := cl.to md
      obtain ⟨a, dxx, gs, rfl, ea⟩ := insOf_ok r dx hx
      obtain ⟨tb, lk, nf⟩ := tyEq_ok (C := C) I r dy ry hy
      cases rx
      obtain ⟨mA, J, _⟩ := ins_get I.hok ea
      obtain ⟨od, J, _⟩ := J.look
      obtain ⟨m, hF⟩ := I.fr
      show wpAny (model X.prog X.w) X.A (richCompare .NotEq (.ref a) v) _ _ _
      refine ne_own (tb := tb) (by have := c.hr.un; omega) hF I.ok.mod.kin J lk nf hm.at_ hm.fn ow.ne ow.mro ?_
      refine wpAny_mono (run_at' (us := [.ref a, v]) (vs := [.ref a, y']) F (Room.in1 (c.hr.mono hj)) I.env0.in1 hb (L2N.passAt c.tk σ) I (.cons rfl (.cons ry .nil)) (Q := fun z H1 => ∃ b ι1 S1, z = .bl b ∧ Ext H ι H1 ι1 ∧ Rep X.K H1 ι1 S1 ∧ Q (.bl (!b)) H1) ?_) (fun w s' ⟨z, H', I', rz, b, ι1, S1, ez, _, _, q⟩ => ?_) fun _ _ x => x
      · exact ⟨ι, [x, y], S, rfl, r, .cons dx (.cons dy .nil), ends_slots (onBl_end h)⟩
      · subst ez
        cases rz
        exact ⟨b, rfl, .bl (!b), H', I', rfl, q⟩
    · exact h.elim
  · exact cd_ne c pins s σ H ι S x y x' y' u v Q I r dx dy rx ry h
end
end DL

namespace DL
open PySem PySem.Spec PyProof.Rows L2

def onStr (r : R D) : R D := r.bind fun d S1 => match d with
  | .str z => .ok (.str z) S1
  | _ => .bad
def onLen (r : R D) : R D := r.bind fun d S1 => match d with
  | .int z => if 0 ≤ z ∧ z < 2 ^ 63 then .ok (.int z) S1 else .bad
  | _ => .bad
/-- str(x), x an instance of C or an int or a text -/
def bStrC (C : Addr) (g : Fn) (x : D) (S : Sto) : R D := if insOf C x S then onStr (g [x] S) else bStr x S
/-- len(x) of an instance of C -/
def bLenC (C : Addr) (g : Fn) (x : D) (S : Sto) : R D := if insOf C x S then onLen (g [x] S) else .bad
/-- isinstance(x, C) -/
def bIsC (C : Addr) (x : D) (S : Sto) : R D := match x with
  | .ref n => (match S[n]? with
    | some (.ins C' _) => if C' = C then .ok (.bl true) S else .bad
    | _ => (match tyN x S with
      | some T => if nfT T then .ok (.bl false) S else .bad
      | none => .bad))
  | x => (match tyN x S with
    | some T => if nfT T then .ok (.bl false) S else .bad
    | none => .bad)
section
variable {M : Mod} {X : Cx} {W : WX} {k j : Nat} {N : List Str} {vis loc : List Nat} {gls : List Str} {e o : Expr} {es : List Expr} {x m : Str} {p pos apos cpos : Pos} {n : Nat} {g : Fn} {fs : Env → Sto → R (List D)} {fa fo : Env → Sto → R D} {C : Addr}
theorem onStr_end {K : PySem.W.Frag} {H : Hp} {ι : List Addr} {σ : St} {Q : VK} {r : R D} (h : ends K W σ (DV K) H ι Q (onStr r)) : ends K W σ (DV K) H ι (fun v H1 => ∃ z, v = .str z ∧ Q v H1) r :=
  (ends.bind (rel := DV K) h).imp fun v H1 ⟨ι1, d, S1, _, e1, r1, d1, h1⟩ => by
    cases d1 with
    | str z => exact ⟨z, rfl, h1 ι1 H1 _ (Ext.refl _ _) r1 (.str _)⟩
    | _ => exact h1.elim
theorem onLen_end {K : PySem.W.Frag} {H : Hp} {ι : List Addr} {σ : St} {Q : VK} {r : R D} (h : ends K W σ (DV K) H ι Q (onLen r)) : ends K W σ (DV K) H ι (fun v H1 => ∃ z, v = .int z ∧ 0 ≤ z ∧ z < 2 ^ 63 ∧ Q v H1) r :=
  (ends.bind (rel := DV K) h).imp fun v H1 ⟨ι1, d, S1, _, e1, r1, d1, h1⟩ => by
    cases d1 with
    | int z =>
      simp only at h1
      split at h1
      · rename_i hz
        exact ⟨z, rfl, hz.1, hz.2, h1 ι1 H1 _ (Ext.refl _ _) r1 (.int _)⟩
      · exact h1.elim
    | _ => exact h1.elim
theorem g1_inv {K : PySem.W.Frag} {H : Hp} {ι : List Addr} {σ : St} {Q : VK} {xs : List D} {vs : List V} {S : Sto} {us : List Value} {g : D → Sto → R D} (d : DVs K H ι xs vs) (r : Vals vs us) (h : ends K W σ (DV K) H ι Q (g1 g xs S)) : ∃ x v u, xs = [x] ∧ us = [u] ∧ vs = [v] ∧ DV K H ι x v ∧ RelV v u ∧ ends K W σ (DV K) H ι Q (g x S) := by
  unfold g1 at h
  split at h
  · rename_i x
    cases d with
    | cons d1 d2 =>
      cases d2
      cases r with
      | cons r1 r2 =>
        cases r2
        exact ⟨x, _, _, rfl, rfl, rfl, d1, r1, h⟩
  · exact h.elim
theorem de_strC (c : Ctx X W k N vis loc gls) (md : Md M X) (cl : Me M j C "__str__" 1 g) (hj : j + 2 ≤ k) (ha : PA X (e :: es) (tAr X.K fs W)) (hm : X.mg "str" = none) (hg : gls.contains ("str" : Str) = true := by decide +kernel) (he : starEach (e :: es) X.env = (false, eval e X.env) :: starEach es X.env := by rfl) (hpl : (backTo pos (starEach es X.env)).any (·.1) = false := by rfl) : PE X (.Call (.Name "str" p) (e :: es) [] pos) (tD X.K (eB fs (g1 (bStrC C g))) W) := by
  obtain ⟨f, fd, ps, F, hb, hc, hmm⟩ := cl.to md
  refine ⟨fun pins s σ H Q I ⟨ι, env, S, r, en, h⟩ => ?_⟩
  refine wpAny_Call_Name_kw (ld_blt I (c.hg "str" (by simpa using hg)) hm boot_str ?_ (by decide +kernel) (by decide +kernel))
  refine PyProof.Rows.callWith_type1 (thn (ha.run pos pins s σ H _ I ⟨ι, env, S, r, en, ends.bind h⟩) fun us s1 ⟨vs, H1, I1, rr, ι1, xs, S1, _, e1, r1, d1, h1⟩ => ?_) he hpl
  obtain ⟨x, v, u, rfl, rfl, rfl, dx, ru, h2⟩ := g1_inv d1 rr h1
  unfold bStrC at h2
  split at h2
  · rename_i hx
    obtain ⟨a, dxx, gs, rfl, ea⟩ := insOf_ok r1 dx hx
    cases ru
    obtain ⟨mA, J, _⟩ := ins_get I1.hok ea
    obtain ⟨od, J, _⟩ := J.look
    refine str_own (by have := c.hr.un; omega) I1.kIn J hmm.at_ hmm.fn ?_
    refine wpAny_mono (run_at' (us := [.ref a]) (vs := [.ref a]) F (Room.in1 (Room.in1 (c.hr.mono (by omega : j + 1 + 1 ≤ k)))) I1.env0.in1.in1 hb (L2N.passAt c.tk σ) I1 (.cons rfl .nil) (Q := fun z H2 => ∃ y, z = .str y ∧ Q z H2) ?_) (fun w s' ⟨z, H', I', rz, y, ez, q⟩ => ?_) fun _ _ x => x
    · exact ⟨ι1, [x], S1, rfl, r1, .cons dx .nil, ends_slots (onStr_end h2)⟩
    · subst ez
      obtain ⟨t, rfl⟩ := rz
      exact ⟨y, t, rfl, .str y, H', I', ⟨t, rfl⟩, q⟩
  · refine (call_str_int.or SkE.call_str_str) pins s1 σ H1 [v] [u] Q I1 (.cons ru .nil) ?_
    cases dx with
    | int i =>
      simp only [bStr] at h2
      split at h2
      · rename_i h
        exact .inl ⟨i, rfl, h, h2 ι1 H1 _ (Ext.refl _ _) r1 (.str _)⟩
      · exact h2.elim
    | str z => exact .inr ⟨z, rfl, h2 ι1 H1 _ (Ext.refl _ _) r1 (.str _)⟩
    | _ => exact h2.elim
theorem de_lenC (c : Ctx X W k N vis loc gls) (md : Md M X) (cl : Me M j C "__len__" 1 g) (hj : j + 1 ≤ k) (ha : PA X (e :: es) (tAr X.K fs W)) (hm : X.mg "len" = none) (hg : gls.contains ("len" : Str) = true := by decide +kernel) (he : starEach (e :: es) X.env = (false, eval e X.env) :: starEach es X.env := by rfl) (hpl : (backTo pos (starEach es X.env)).any (·.1) = false := by rfl) : PE X (.Call (.Name "len" p) (e :: es) [] pos) (tD X.K (eB fs (g1 (bLenC C g))) W) := by
  obtain ⟨f, fd, ps, F, hb, hc, hmm⟩ := cl.to md
  refine ⟨fun pins s σ H Q I ⟨ι, env, S, r, en, h⟩ => ?_⟩
  refine wpAny_Call_Name_kw (ld_blt I (c.hg "len" (by simpa using hg)) hm PySem.boot_len ?_ (by decide +kernel) (by decide +kernel))
  refine PyProof.Rows.callWith_builtin1 (thn (ha.run pos pins s σ H _ I ⟨ι, env, S, r, en, ends.bind h⟩) fun us s1 ⟨vs, H1, I1, rr, ι1, xs, S1, _, e1, r1, d1, h1⟩ => ?_) he hpl
  obtain ⟨x, v, u, rfl, rfl, rfl, dx, ru, h2⟩ := g1_inv d1 rr h1
  unfold bLenC at h2
  split at h2
  · rename_i hx
    obtain ⟨a, dxx, gs, rfl, ea⟩ := insOf_ok r1 dx hx
    cases ru
    obtain ⟨mA, J, _⟩ := ins_get I1.hok ea
    obtain ⟨od, J, _⟩ := J.look
    refine len_own I1.kIn J hmm.at_ hmm.fn ?_
    refine wpAny_mono (run_at' (us := [.ref a]) (vs := [.ref a]) F (Room.in1 (c.hr.mono hj)) I1.env0.in1 hb (L2N.passAt c.tk σ) I1 (.cons rfl .nil) (Q := fun z H2 => ∃ y, z = .int y ∧ 0 ≤ y ∧ y < 2 ^ 63 ∧ Q z H2) ?_) (fun w s' ⟨z, H', I', rz, y, ez, h0, h1, q⟩ => ?_) fun _ _ x => x
    · exact ⟨ι1, [x], S1, rfl, r1, .cons dx .nil, ends_slots (onLen_end h2)⟩
    · subst ez
      obtain ⟨t, rfl⟩ := rz
      exact ⟨y, t, rfl, h0, h1, fun t' tk => ⟨.int y, H', I'.tok tk, ⟨t', rfl⟩, q⟩⟩
  · exact h2.elim
/-- isinstance(e, C) -/
theorem de_isC (c : Ctx X W k N vis loc gls) {y : Str} {p2 : Pos} (ow : OwnC X.K C) (hs0 : PySem.W.kitOne X.K (.ref C) (.ref C) = some true) (hnb : ∀ T, nfT T = true → PySem.W.kitOne X.K (.type T) (.ref C) = some false) (ha : PE X e (tD X.K fa W)) (hm : X.mg "isinstance" = none) (hy : X.mg y = some (.ref C)) (hg : gls.contains ("isinstance" : Str) = true := by decide +kernel) (hgy : gls.contains y = true := by decide +kernel) (hdb : (y == ("__debug__" : Str)) = false := by decide +kernel)
    (hs : starEach [e, .Name y p2] X.env = (false, eval e X.env) :: starEach [.Name y p2] X.env := by rfl) (hs2 : starEach [.Name y p2] X.env = (false, eval (.Name y p2) X.env) :: starEach [] X.env := by rfl) (hpl : (backTo pos (starEach [.Name y p2] X.env)).any (·.1) = false := by rfl) :
    PE X (.Call (.Name "isinstance" p) [e, .Name y p2] [] pos) (tD X.K (fun env S => (fa env S).bind (bIsC C)) W) := by
  have pC : PE X (.Name y p2) (tC (.ref C)) := pe_glob (c.hg y (by simpa using hgy)) hy rfl hdb
  refine PE.imp (pe_callB call_isi (c.hg "isinstance" (by simpa using hg)) hm (by decide +kernel) (pa_cons ha (pa_cons pC pa_nil hs2) hs) (by decide +kernel) (by decide +kernel) hs hpl) fun σ H Q ⟨ι, env, S, rp, en, h⟩ => ⟨ι, env, S, rp, en, (ends.bind h).imp fun v H1 ⟨ι1, d, S1, _, e1, r1, d1, h1⟩ => ?_⟩
  have bt : ends X.K W σ (DV X.K) H1 ι1 Q (match tyN d S1 with | some T => if nfT T then .ok (.bl false) S1 else .bad | none => .bad) → ∃ (x c : V) (t u : Value) (b : Bool), [v, V.ref C] = [x, c] ∧ ClsV c u ∧ TyX X.K H1 x t ∧ PySem.W.kitOne X.K t u = some b ∧ Q (.bl b) H1 := fun h1 => by
    cases q : tyN d S1 with
    | none => rw [q] at h1; exact h1.elim
    | some T =>
      rw [q] at h1
      simp only at h1
      split at h1
      · rename_i hT
        exact ⟨v, .ref C, .type T, .ref C, false, rfl, .own C, tyN_ok r1 d1 q, hnb T hT, h1 ι1 H1 _ (Ext.refl _ _) r1 (.bl _)⟩
      · exact h1.elim
  cases d with
  | ref n =>
    simp only [bIsC] at h1
    split at h1
    · rename_i C' fs hs
      split at h1
      · rename_i hC
        subst hC
        cases d1 with
        | ref hn =>
          obtain ⟨dx, gs, ea, _⟩ := r1.ins hs hn
          exact ⟨_, .ref C', .ref C', .ref C', true, rfl, .own C', .base (.ins ea ow.cl ow.ca ow.cn ow.ct ow.mro), hs0, h1 ι1 H1 _ (Ext.refl _ _) r1 (.bl _)⟩
      · exact h1.elim
    · exact bt h1
  | _ => exact bt h1
theorem de_meth0 (c : Ctx X W k N vis loc gls) (md : Md M X) (cl : Me M j C m n g) (hj : j ≤ k) (ho : PE X o (tD X.K fo W)) {pl : Sem Bool}
    (ht : eval (.Call (.Attribute o m apos) [] [] pos) X.env = (do
      let ov ← eval o X.env
      standAt apos.atName
      let (f, first) ← holding [ov] (getMethod ov m pl)
      callWith pos f first (backTo pos (starEach [] X.env)) (backToKw pos (keywordEach [] X.env))) := by rfl) :
    PE X (.Call (.Attribute o m apos) [] [] pos) (tD X.K (eMeth C m n g fo aNil) W) := by
  obtain ⟨f, fd, ps, F, hb, hc, hm⟩ := cl.to md
  refine ⟨fun pins s σ H Q I ⟨ι, env, S, r, en, h⟩ => ?_⟩
  refine PySem.W.methodCall_KW (pl := pl) (thn (ho.run pins s σ H _ I ⟨ι, env, S, r, en, ends.bind h⟩) fun u s1 ⟨x, H1, I1, rx, ι1, d, S1, _, e1, r1, d1, h1⟩ => ?_) ht
  cases d1 with
  | @ref i a hn =>
    simp only at h1
    split at h1
    · rename_i C' fs hs
      split at h1
      · rename_i hC
        obtain ⟨hC, hl⟩ := hC
        subst hC
        obtain ⟨dx, gs, ea, dd⟩ := r1.ins hs hn
        obtain rfl : u = Value.ref a := rx
        refine getmeth_ok I1 ea hc hm (dd.lookup_none hl) ?_
        have h2 : ends X.K W σ (DV X.K) H1 ι1 Q (if ([] : List D).length + 1 = n then g [D.ref i] S1 else .bad) := h1
        split at h2
        · rename_i hlen
          refine PySem.W.callWith_K0 (first := [.ref a]) I1.kIn hm.kp (run_fnSD (us := [.ref a]) (vs := [.ref a]) (dvs := []) F (c.hr.mono hj) hb .nil (L2N.passAt c.tk σ) I1 (.cons rfl .nil) ?_)
          exact ⟨ι1, [.ref i], S1, hlen, r1, .cons (.ref hn) .nil, ends_slots h2⟩
        · exact h2.elim
      · exact h1.elim
    · exact h1.elim
  | _ => exact h1.elim
/-- C(e, ..) -/
theorem made_ok {pins : List (Addr × Obj)} {σ : St} {H : Hp} {s : Shared} {Q : VK} {us : List Value} {vs : List V} {xs : List D} {ι : List Addr} {S : Sto} (c : Ctx X W k N vis loc gls) (md : Md M X) (cl : Mkr M j x C n g) (hj : j + 1 ≤ k) (I : Inv X pins σ H s) (r : Vals vs us) (rp : Rep X.K H ι S) (d : DVs X.K H ι xs vs)
    (h : ends X.K W σ (DV X.K) H ι Q (if xs.length + 1 = n then (g (.ref S.length :: xs) (S ++ [.ins C []])).bind fun v S2 => (match v with | .non => .ok (.ref S.length) S2 | _ => .bad) else .bad)) : wpAny (model X.prog X.w) X.A (call (.ref C) us) (EP X pins σ Q) X.xe s := by
  obtain ⟨f, fd, ps, F, hm, hb, hM⟩ := cl.to md
  split at h
  case isFalse => exact h.elim
  rename_i hl
  have hr : Room (j + 1) X.A := c.hr.mono hj
  -- the new instance at a, its dict at dx
  obtain ⟨a, ea⟩ : ∃ a, a = s.heap.objs.size + 1 := ⟨_, rfl⟩
  obtain ⟨dx, edx⟩ : ∃ dx, dx = s.heap.objs.size := ⟨_, rfl⟩
  have ha : H a = none := I.hok.fresh (by rw [ea]; exact Nat.le_succ _)
  have hdx : H dx = none := I.hok.fresh (by rw [edx]; exact Nat.le_refl _)
  have hne : dx ≠ a := by omega
  have x1 : Ext H ι (upd H dx (.own a)) ι := Ext.junk _ hdx
  have r1 := rp.junk (.own a) hdx
  have ha' : upd H dx (.own a) a = none := by rw [upd_ne hne.symm]; exact ha
  have x2 := x1.trans (Ext.adopt (ι := ι) (.ins C dx []) ha')
  have r2 := r1.adopt (o := .ins C []) (u := .ins C dx []) ha' (.ins .nil)
  have hq : spD X.K n g (.ref a :: vs) (upd (upd H dx (.own a)) a (.ins C dx [])) (fun v H2 => v = .non ∧ Q (.ref a) H2) (WE W σ) := by
    refine ⟨ι ++ [a], .ref S.length :: xs, S ++ [.ins C []], hl, r2, .cons (.ref (by rw [← rp.len]; simp)) (d.mono x2.toGr), ends_slots ?_⟩
    cases q : g (.ref S.length :: xs) (S ++ [.ins C []]) with
    | ok v S2 =>
      rw [q] at h
      intro ι' H' v' e' rp' dv'
      cases v with
      | non =>
        cases dv'
        exact ⟨rfl, h ι' H' (.ref a) (x2.trans e') rp' (.ref (e'.get (by rw [← rp.len]; simp)))⟩
      | _ => exact h.elim
    | err x S2 =>
      rw [q] at h
      exact fun ι' H' cls dd e' rp' xr => h ι' H' cls dd (x2.trans e') rp' xr
    | bad => rw [q] at h; exact h.elim
  have I2 := Inv.made (C := C) I
  subst ea edx
  have rv : Vals (V.ref (s.heap.objs.size + 1) :: vs) (Value.ref (s.heap.objs.size + 1) :: us) := .cons rfl r
  have hlen : (Value.ref (s.heap.objs.size + 1) :: us).length = ps.length := by rw [← rv.length]; exact F.len _ _ _ _ hq
  refine wpAny_call (make_map (f := f) I.kIn hM.makes hM.init (beq_iff_eq.mp hM.fn) (codeAny_mono (F.run _ X.stack _ _ ⟨Value.ref (s.heap.objs.size + 1) :: us, []⟩ (Value.ref (s.heap.objs.size + 1) :: us) _ _ _ (hr.make C us [])
    (I2.env0.make C us []) (by
      have b := hb _ (Value.ref (s.heap.objs.size + 1) :: us) I2.kIn (by rw [List.append_nil]; exact hlen)
      rw [List.append_nil] at b
      exact b) rv hq) fun r s' hq' => ?_))
  cases r with
  | error e => exact L2N.passAt c.tk σ pins _ _ e s' I2 hq'
  | ok fl =>
    cases fl with
    | ret u =>
      obtain ⟨v, H', I3, rvv, ev, q3⟩ := I2.after hq'
      subst ev
      exact ⟨rvv, ⟨V.ref (s.heap.objs.size + 1), H', I3, rfl, q3⟩⟩
    | next => exact False.elim hq'
    | brk => exact False.elim hq'
    | cont => exact False.elim hq'
theorem de_make (c : Ctx X W k N vis loc gls) (md : Md M X) (cl : Mkr M j x C n g) (hj : j + 1 ≤ k) (ha : PA X (e :: es) (tAr X.K fs W)) (hg : gls.contains x = true := by decide +kernel) (hdb : (x == ("__debug__" : Str)) = false := by decide +kernel) (he : starEach (e :: es) X.env = (false, eval e X.env) :: starEach es X.env := by rfl) (hpl : (backTo pos (starEach es X.env)).any (·.1) = false := by rfl) : PE X (.Call (.Name x p) (e :: es) [] pos) (tD X.K (eMake C n g fs) W) := by
  obtain ⟨f, fd, ps, F, hm, hb, hM⟩ := cl.to md
  refine ⟨fun pins s σ H Q I ⟨ι, env, S, r, en, h⟩ => ?_⟩
  refine wpAny_Call_Name_kw (ld_glob I (c.hg x (by simpa using hg)) hm ?_ hdb)
  refine PySem.W.callWith_K (h₀ := X.base) I.ok.mod.kin hM.kp (thn (ha.run pos pins s σ H _ I ⟨ι, env, S, r, en, ends.bind h⟩) fun us s1 ⟨vs, H1, I1, rr, ι1, xs, S1, _, e1, r1, d1, h1⟩ => ⟨I1.kIn, ?_⟩) he hpl
  exact made_ok c md cl hj I1 rr r1 d1 h1
theorem de_make0 (c : Ctx X W k N vis loc gls) (md : Md M X) (cl : Mkr M j x C n g) (hj : j + 1 ≤ k) (hg : gls.contains x = true := by decide +kernel) (hdb : (x == ("__debug__" : Str)) = false := by decide +kernel) : PE X (.Call (.Name x p) [] [] pos) (tD X.K (eMake C n g aNil) W) := by
  obtain ⟨f, fd, ps, F, hm, hb, hM⟩ := cl.to md
  refine ⟨fun pins s σ H Q I ⟨ι, env, S, r, en, h⟩ => ?_⟩
  refine wpAny_Call_Name_kw (ld_glob I (c.hg x (by simpa using hg)) hm ?_ hdb)
  exact PySem.W.callWith_K0 I.kIn hM.kp (made_ok (xs := []) c md cl hj I .nil r .nil h)

/-! ### f'{a} {b}' -/
def fmtD (x : D) (S : Sto) : R D := match x with
  | .str y => if small y.length then .ok (.str y) S else .bad
  | .int i => if i.natAbs.log2 < 1920 then .ok (.str (toString i)) S else .bad
  | _ => .bad
def eFmt (fa : Env → Sto → R D) : Env → Sto → R D := fun env S => (fa env S).bind fmtD
def jsD : List (Env → Sto → R D) → Str → Env → Sto → R Str
  | [], acc, _, S => .ok acc S
  | f :: fs, acc, env, S => (f env S).bind fun x S1 => match x with
    | .str y => if small (acc ++ y).length then jsD fs (acc ++ y) env S1 else .bad
    | _ => .bad
def eJs (fs : List (Env → Sto → R D)) : Env → Sto → R D := fun env S => (jsD fs Str.empty env S).bind fun z S1 => .ok (.str z) S1
theorem de_fmt (ha : PE X e (tD X.K fa W)) : PE X (.FormattedValue e (-1) none pos) (tD X.K (eFmt fa) W) := by
  refine PE.imp (pe_fmt ha) fun σ H Q ⟨ι, env, S, r, en, h⟩ => ⟨ι, env, S, r, en, (ends.bind h).imp fun v H1 ⟨ι1, x, S1, _, e1, r1, d1, h1⟩ => ?_⟩
  cases d1 with
  | str y =>
    simp only [fmtD] at h1
    split at h1
    · rename_i hz
      exact .inl ⟨y, rfl, of_decide_eq_true hz, h1 ι1 H1 _ (Ext.refl _ _) r1 (.str _)⟩
    · exact h1.elim
  | int i =>
    simp only [fmtD] at h1
    split at h1
    · rename_i hz
      exact .inr ⟨i, rfl, hz, h1 ι1 H1 _ (Ext.refl _ _) r1 (.str _)⟩
    · exact h1.elim
  | _ => exact h1.elim
/-- the parts of an f-string -/
inductive DJ (X : Cx) (W : WX) : List Expr → List (Env → Sto → R D) → Prop where
  | nil : DJ X W [] []
  | cons {e : Expr} {f : Env → Sto → R D} {es : List Expr} {fs : List (Env → Sto → R D)} (h : PE X e (tD X.K f W)) (r : DJ X W es fs) : DJ X W (e :: es) (f :: fs)
theorem DJ.pj {es : List Expr} {fs : List (Env → Sto → R D)} (h : DJ X W es fs) : PJ X es (fs.map fun f => tD X.K f W) := by
  induction h with
  | nil => exact .nil
  | cons h _ ih => exact .cons h ih
def strR : Rl Str Str := fun _ _ a b => a = b
theorem tJs_ok {σ : St} {env : Env} : ∀ (fs : List (Env → Sto → R D)) (acc : Str) (H : Hp) (ι : List Addr) (S : Sto) (Q : Str → Hp → Prop), Rep X.K H ι S → EnvR X.K H ι env σ → ends X.K W σ strR H ι Q (jsD fs acc env S) → tJs (fs.map fun f => tD X.K f W) acc σ H Q
  | [], acc, H, ι, S, Q, r, en, h => h ι H acc (Ext.refl _ _) r rfl
  | f :: fs, acc, H, ι, S, Q, r, en, h => by
    refine ⟨ι, env, S, r, en, (ends.bind h).imp fun v H1 ⟨ι1, x, S1, _, e1, r1, d1, h1⟩ => ?_⟩
    cases d1 with
    | str y =>
      simp only at h1
      split at h1
      · rename_i hz
        exact ⟨y, rfl, of_decide_eq_true hz, tJs_ok fs _ H1 ι1 S1 Q r1 (en.mono e1.toGr) h1⟩
      · exact h1.elim
    | _ => exact h1.elim
theorem de_joined {v1 v2 : Expr} {rest : List Expr} {fl : List (Env → Sto → R D)} (h : DJ X W (v1 :: v2 :: rest) fl) : PE X (.JoinedStr (v1 :: v2 :: rest) pos) (tD X.K (eJs fl) W) := by
  refine PE.imp (pe_joined h.pj) fun σ H Q ⟨ι, env, S, r, en, h⟩ => tJs_ok fl _ H ι S _ r en ?_
  refine (ends.bind (rel := strR) h).imp fun z H1 ⟨ι1, x, S1, _, e1, r1, d1, h1⟩ => ?_
  cases (show x = z from d1)
  exact h1 ι1 H1 _ (Ext.refl _ _) r1 (.str _)
end
end DL

namespace DL
open PySem PySem.Spec PyProof.Rows L2

/-! ### what the printed texts ask -/
theorem Md.no {M : Mod} {X : Cx} (m : Md M X) {x : Str} (h : M.mg x = none) : X.mg x = none := by rw [m.mg]; exact h
theorem Md.some {M : Mod} {X : Cx} (m : Md M X) {x : Str} {u : Value} (h : M.mg x = some u) : X.mg x = some u := by rw [m.mg]; exact h
theorem Md.own {M : Mod} {X : Cx} (m : Md M X) {C : Addr} (h : OwnC M.K C) : OwnC X.K C := by rw [m.K]; exact h
theorem Md.cls {M : Mod} {X : Cx} (m : Md M X) {C : Addr} (h : Cls M.K C) : Cls X.K C := by rw [m.K]; exact h
theorem Md.noat {M : Mod} {X : Cx} (m : Md M X) {C : Addr} {f : Str} (h : NoAttr M.K C f) : NoAttr X.K C f := by rw [m.K]; exact h
theorem Md.kit {M : Mod} {X : Cx} (m : Md M X) {t u : Value} {b : Option Bool} (h : PySem.W.kitOne M.K t u = b) : PySem.W.kitOne X.K t u = b := by rw [m.K]; exact h
structure DefT (M : Mod) (x : Str) (st : Stmt) (ps : List Str) : Prop where
  ex : ∃ (f : Addr) (fd : FuncData), Fun M.K x x st f fd ∧ M.mg x = some (.ref f) ∧ Binds M.K fd ps []
structure MetT (M : Mod) (C : Addr) (m qual : Str) (st : Stmt) (ps : List Str) : Prop where
  ex : ∃ (f : Addr) (fd : FuncData), Fun M.K m qual st f fd ∧ Meth M.K C m f ∧ Binds M.K fd ps [] ∧ Cls M.K C
structure IniT (M : Mod) (x : Str) (C : Addr) (qual : Str) (st : Stmt) (ps : List Str) : Prop where
  ex : ∃ (f : Addr) (fd : FuncData), Fun M.K "__init__" qual st f fd ∧ Mk M.K C f ∧ Binds M.K fd ps [] ∧ M.mg x = some (.ref C)
def gOf (N : List Str) (body : Env → Sto → RS) : Fn := fun args S => retOf (body (startE N args) S)
section
variable {M : Mod} {x : Str} {st : Stmt} {N ps : List Str} {k n : Nat} {vis loc : List Nat} {gls : List Str} {body : Env → Sto → RS}
theorem cl_mk (T : DefT M x st ps) (S : FnScope N ps (defScope st)) (hn : ps.length = n) (hsc : scOk N (defScope st) vis loc gls = true)
    (hb : ∀ (X : Cx) (W : WX), Md M X → Ctx X W k N vis loc gls → X.env.scope = defScope st → PSs X (defBody st) (tS X.K body W)) : Cl M (k + 1) x n (gOf N body) := by
  obtain ⟨f, fd, F, hm, hbi⟩ := T.ex
  exact ⟨f, fd, ps, fn_ok F S hn hsc hb, hm, F.kp, hbi⟩
theorem cl_mkT (T : DefT M x st ps) (S : FnScope N ps (defScope st)) (hn : ps.length = n) (hsc : scOk N (defScope st) vis loc gls = true)
    (hb : ∀ (X : Cx) (W : WX), Md M X → Ctx X W k N vis loc gls → X.env.scope = defScope st → (X.stack = X.env :: X.outer ∧ X.env.frame = some X.env.locals) → PSs X (defBody st) (tS X.K body W)) : Cl M (k + 1) x n (gOf N body) := by
  obtain ⟨f, fd, F, hm, hbi⟩ := T.ex
  exact ⟨f, fd, ps, fn_okT F S hn hsc hb, hm, F.kp, hbi⟩
theorem me_mk {C : Addr} {m qual : Str} (T : MetT M C m qual st ps) (S : FnScope N ps (defScope st)) (hn : ps.length = n) (hsc : scOk N (defScope st) vis loc gls = true)
    (hb : ∀ (X : Cx) (W : WX), Md M X → Ctx X W k N vis loc gls → X.env.scope = defScope st → PSs X (defBody st) (tS X.K body W)) : Me M (k + 1) C m n (gOf N body) := by
  obtain ⟨f, fd, F, hm, hbi, hc⟩ := T.ex
  exact ⟨f, fd, ps, fn_ok F S hn hsc hb, hbi, hc, hm⟩
theorem mkr_mk {C : Addr} {qual : Str} (T : IniT M x C qual st ps) (S : FnScope N ps (defScope st)) (hn : ps.length = n) (hsc : scOk N (defScope st) vis loc gls = true)
    (hb : ∀ (X : Cx) (W : WX), Md M X → Ctx X W k N vis loc gls → X.env.scope = defScope st → PSs X (defBody st) (tS X.K body W)) : Mkr M (k + 1) x C n (gOf N body) := by
  obtain ⟨f, fd, F, hm, hbi, hg⟩ := T.ex
  exact ⟨f, fd, ps, fn_ok F S hn hsc hb, hg, hbi, hm⟩
end
section
variable {M : Mod} {X : Cx} {W : WX} {k j : Nat} {N : List Str} {vis loc : List Nat} {gls : List Str} {pos : Pos}
theorem de_globX (c : Ctx X W k N vis loc gls) (md : Md M X) (v : V) {x : Str} (h : ∃ u, M.mg x = some u ∧ RelV v u) (hg : gls.contains x = true := by decide +kernel) (hd : (x == ("__debug__" : Str)) = false := by decide +kernel) : PE X (.Name x pos) (tD X.K (eC (conD v)) W) := by
  obtain ⟨u, h1, h2⟩ := h
  exact de_glob c v (md.some h1) h2 hg hd
theorem sw_false {elt : Expr} {gs : List Comprehension} {scope : Scope} {pos py : Pos} {y : Str} {l : Nat} {env : PySem.Env} (hy : env.scope.names.lookup y = some .cell) : swapsWith (.ListComp elt gs scope pos) (some (.Name y py)) l env = pure false := by
  have ky : env.kindOf y = some .cell := hy
  have h1 : (some NameKind.cell == some NameKind.local) = false := by decide
  unfold swapsWith
  simp only [ky, h1, Bool.and_false, Bool.false_and]
end
end DL

namespace DL
open PySem PySem.Spec PyProof.Rows L2

/-! ### the top -/
def spTop (K : PySem.W.Frag) : Sp := fun vs H Q _ => ∃ (a : Addr) (ns : List Int), vs = [.ref a] ∧ ScrAt K H a ns ∧ ns.length ≤ 63 ∧ ∀ H', Q (.bl true) H'
theorem top_ok {P : Program} {w : World} {K : PySem.W.Frag} {mg : Str → Option Value} {base : Heap} {k : Nat} {f : Addr} {fd : FuncData} {g : Fn} (F : FnOk P w K mg base (L2N.CX P w) k f fd ["script"] (spD K 1 g)) (hg : ∀ ns : List Int, ns.length ≤ 63 → ∃ S, g [.scr ns] [] = .ok (.bl true) S) : FnOk P w K mg base (L2N.CX P w) k f fd ["script"] (spTop K) := by
  refine F.imp fun vs H Q E ⟨a, ns, ev, hs, hl, q⟩ => ?_
  subst ev
  obtain ⟨S, e⟩ := hg ns hl
  refine ⟨[], [.scr ns], [], rfl, ⟨rfl, List.nodup_nil, fun n o a h => by simp at h⟩, .cons (.scr hs) .nil, ?_⟩
  rw [e]
  intro ι' H' b _ _ d
  cases d
  exact q H'
theorem walk_dl {l : PySem.W.OpenLaw} {q : Program} {loose : List Str} {XP : (Str → Option Value) → Heap → Prop} {YP : World → Heap → Prop} {d : DefRec} {K : Params → PySem.W.Frag} (k : Nat) (hn : l.most = some 63) (hdf : d.params.defaults = []) (hr : Room k callerA)
    (hY : ∀ (w : World) (h : Heap), YP w h → (K w.params).In h)
    (F : ∀ (w : World) (mg : Str → Option Value) (fa : Addr) (h : Heap), (K w.params).In h → h.Ns mainGlobals mg → mg d.name = some (.ref fa) →
      ∃ fd : FuncData, (∀ (s : Shared) (u : Value), BindsTo s fd ⟨[u], []⟩ [("script", u)]) ∧ ∀ base : Heap, (K w.params).In base → base.Ns mainGlobals mg → FnOk l.prog w (K w.params) mg base (L2N.CX l.prog w) k fa fd ["script"] (spTop (K w.params))) :
    PySem.W.WalkO q loose XP YP l.row.toRowW d [] (fun f vs => PySem.call f vs) :=
  L2.walk_of (n := 63) (k := k) (x := "script") (CX := fun w => L2N.CX l.prog w) (sp := fun w => spTop (K w.params)) hn (by decide) hdf hr hY F (fun _ _ a ns hl hO hS => ⟨a, ns, rfl, ScrAt.of hS hO, hl, fun _ => rfl⟩) fun _ _ _ _ _ z => by
    obtain ⟨_, _, _, _, _, _, _, _, _, _, _, _, z⟩ := z
    exact z
/-- facts of a def, from what the top has written -/
theorem defT_mk {P : Program} {w : World} {K : PySem.W.Frag} {mg : Str → Option Value} {base h : Heap} {x : Str} {st : Stmt} {f : Addr} {ps : List Str} {oc : Value} {od an : Option Addr} {osl : Array (Option Value)} {kV doc pm cdv ct : Value} (X : K.In h) (G : h.Ns mainGlobals mg)
    (a : PySem.W.nsIn K mainGlobals x = some (some (.ref f))) (l : K.lookup f = some ⟨oc, od, .func (PySem.W.fnOf x x (defArgs st) (defBody st) (defScope st) .none kV doc pm an cdv ct), osl⟩) (c : PySem.W.codeIn K cdv x = true) (k : PySem.W.keepIn K (.ref f) = true)
    (b : ∀ (kV doc pm : Value) (an : Option Addr) (cdv ct : Value) (us : List Value), us.length = ps.length → bindArgs (PySem.W.fnOf x x (defArgs st) (defBody st) (defScope st) .none kV doc pm an cdv ct) ⟨us, []⟩ = pure (ps.zip us)) : DefT ⟨P, w, K, mg, base⟩ x st ps :=
  ⟨f, _, fun_mk l c k, PySem.W.mg_of X G a, (fun_mk l c k).binds b⟩
theorem metT_mk {P : Program} {w : World} {K : PySem.W.Frag} {mg : Str → Option Value} {base : Heap} {m qual : Str} {st : Stmt} {C f : Addr} {ps : List Str} {oc : Value} {od an : Option Addr} {osl : Array (Option Value)} {kV doc pm cdv ct : Value}
    (a : PySem.W.findIn K (.ref C) m = some (some (.ref f))) (i : PySem.W.isFn K (.ref f) = true) (l : K.lookup f = some ⟨oc, od, .func (PySem.W.fnOf m qual (defArgs st) (defBody st) (defScope st) .none kV doc pm an cdv ct), osl⟩) (c : PySem.W.codeIn K cdv qual = true) (k : PySem.W.keepIn K (.ref f) = true) (cl : Cls K C)
    (b : ∀ (kV doc pm : Value) (an : Option Addr) (cdv ct : Value) (us : List Value), us.length = ps.length → bindArgs (PySem.W.fnOf m qual (defArgs st) (defBody st) (defScope st) .none kV doc pm an cdv ct) ⟨us, []⟩ = pure (ps.zip us)) : MetT ⟨P, w, K, mg, base⟩ C m qual st ps :=
  ⟨f, _, fun_mk l c k, ⟨a, i, k⟩, (fun_mk l c k).binds b, cl⟩
theorem iniT_mk {P : Program} {w : World} {K : PySem.W.Frag} {mg : Str → Option Value} {base h : Heap} {x qual : Str} {st : Stmt} {C f : Addr} {ps : List Str} {oc : Value} {od an : Option Addr} {osl : Array (Option Value)} {kV doc pm cdv ct : Value} (X : K.In h) (G : h.Ns mainGlobals mg)
    (aC : PySem.W.nsIn K mainGlobals x = some (some (.ref C))) (a : PySem.W.findIn K (.ref C) "__init__" = some (some (.ref f))) (i : PySem.W.isFn K (.ref f) = true) (l : K.lookup f = some ⟨oc, od, .func (PySem.W.fnOf "__init__" qual (defArgs st) (defBody st) (defScope st) .none kV doc pm an cdv ct), osl⟩) (c : PySem.W.codeIn K cdv qual = true) (k : PySem.W.keepIn K (.ref f) = true)
    (mk : PySem.W.makesIn K C = true) (kC : PySem.W.keepIn K (.ref C) = true) (b : ∀ (kV doc pm : Value) (an : Option Addr) (cdv ct : Value) (us : List Value), us.length = ps.length → bindArgs (PySem.W.fnOf "__init__" qual (defArgs st) (defBody st) (defScope st) .none kV doc pm an cdv ct) ⟨us, []⟩ = pure (ps.zip us)) : IniT ⟨P, w, K, mg, base⟩ x C qual st ps :=
  ⟨f, _, fun_mk l c k, ⟨mk, a, i, kC⟩, (fun_mk l c k).binds b, PySem.W.mg_of X G aC⟩
theorem kit_self {K : PySem.W.Frag} {C : Addr} : PySem.W.kitOne K (.ref C) (.ref C) = some true := by simp [PySem.W.kitOne]
theorem kit_bt {K : PySem.W.Frag} {C : Addr} (h1 : PySem.W.isClsIn K C = true) (h2 : PySem.W.typeIn K (.ref C) = some (.type "type")) : ∀ t, nfT t = true → PySem.W.kitOne K (.type t) (.ref C) = some false := fun t ht => by
  have h1 : (PySem.W.clsIn K C).isSome = true := h1
  unfold PySem.W.kitOne PySem.W.kitCls
  rw [if_neg (by simp)]
  simp only [h1, h2, beq_self_eq_true, Bool.and_true, if_true]
  unfold nfT at ht
  unfold PySem.W.subIn
  cases q : PySem.fastBuiltinMro t with
  | none => rw [q] at ht; cases ht
  | some l =>
    rw [q] at ht
    have : l.contains (Value.ref C) = false := by
      rw [List.contains_eq_any_beq, List.any_eq_false]
      intro v hv
      have := List.all_eq_true.mp ht v hv
      cases v <;> simp at this
      simp
    show Option.map (fun z => z.contains (Value.ref C)) (PySem.fastBuiltinMro t) = some false
    rw [q, Option.map_some, this]
theorem constT {K : PySem.W.Frag} {h : Heap} {mg : Str → Option Value} {x : Str} {v : V} {u : Value} (X : K.In h) (G : h.Ns mainGlobals mg) (a : PySem.W.nsIn K mainGlobals x = some (some u)) (r : RelV v u) : ∃ u, mg x = some u ∧ RelV v u := ⟨u, PySem.W.mg_of X G a, r⟩
end DL

namespace DL
open PySem PySem.Spec PyProof.Rows L2

/-! ### raise -/
/-- raise x("..") -/
def sRaise (x : Str) : Env → Sto → RS := fun env S => .err ⟨x, none⟩ env S
/-- raise x(e), x's own __init__ keeping e at f -/
def sRaiseF (x f : Str) (fe : Env → Sto → R D) : Env → Sto → RS := fun env S => (fe env S).seq env fun d S1 => .err ⟨x, some [(f, d)]⟩ env S1
/-- an own class of exceptions without an __init__ of its own -/
structure RsT (M : Mod) (x : Str) : Prop where
  ex : ∃ C : Addr, PySem.W.nsIn M.K mainGlobals x = some (some (.ref C)) ∧ M.mg x = some (.ref C) ∧ PySem.W.excIn M.K C PySem.HandSPX.veTail "ValueError.__new__" = true ∧ PySem.W.keepIn M.K (.ref C) = true ∧
    PySem.W.subIn M.K (.ref C) (.type "BaseException") = some true ∧ PySem.W.typeIn M.K (.ref C) = some (.type "type")
theorem RsT.to {M : Mod} {X : Cx} {x : Str} (T : RsT M x) (m : Md M X) : ∃ C : Addr, PySem.W.nsIn X.K mainGlobals x = some (some (.ref C)) ∧ X.mg x = some (.ref C) ∧ PySem.W.excIn X.K C PySem.HandSPX.veTail "ValueError.__new__" = true ∧ PySem.W.keepIn X.K (.ref C) = true ∧
    PySem.W.subIn X.K (.ref C) (.type "BaseException") = some true ∧ PySem.W.typeIn X.K (.ref C) = some (.type "type") := by
  rw [m.K, m.mg]
  exact T.ex
section
variable {M : Mod} {X : Cx} {W : WX} {k : Nat} {N : List Str} {vis loc : List Nat} {gls : List Str}
theorem ds_raise (c : Ctx X W k N vis loc gls) (md : Md M X) {x m : Str} {j : Nat} {p p2 pos pos' : Pos} (T : RsT M x) (hg : gls.contains x = true := by decide +kernel) (hdb : (x == ("__debug__" : Str)) = false := by decide +kernel) :
    PS X (.Raise (some (.Call (.Name x p) [.Constant (.str m) j p2] [] pos')) none pos) (tS X.K (sRaise x) W) := by
  obtain ⟨C, h1, h2, h3, h4, h5, h6⟩ := T.to md
  refine PS.imp (L2N.ps_raise c.calm c.tk (L2N.pmk_own PySem.F.excBase_ValueError h3 h2 h4 (raises_own h5 h6) (c.hg x (by simpa using hg)) hdb)) fun D σ H ⟨ι, env, S, r, en, h⟩ => ?_
  exact h ι H (.ref C) none σ (Ext.refl _ _) r en ⟨⟨C, h1, rfl⟩, rfl⟩
end

/-! ### classes with an __init__ that asks the class above, and keeps one thing -/
def spIni (C : Addr) (f : Str) : Sp := fun vs H Q _ => ∃ (a : Addr) (y : V), vs = [.ref a, y] ∧ H a = some (exo a C none) ∧ ∀ dx, H dx = none → dx ≠ a → Q .non (upd (upd H dx (exd dx [(f, y)])) a (exo a C (some dx)))
/-- x at C, its one field f -/
structure RsF (M : Mod) (x f : Str) : Prop where
  ex : ∃ (C fI : Addr) (fd : FuncData) (ps : List Str), PySem.W.nsIn M.K mainGlobals x = some (some (.ref C)) ∧ M.mg x = some (.ref C) ∧ OexC M.K C ∧ PySem.W.findIn M.K (.ref C) "__init__" = some (some (.ref fI)) ∧ PySem.W.typeIn M.K (.ref fI) = some (.type "function") ∧
    FnOk M.P M.w M.K M.mg M.base (L2N.CX M.P M.w) 1 fI fd ps (spIni C f) ∧ Binds M.K fd ps []
theorem RsF.to {M : Mod} {X : Cx} {x f : Str} (T : RsF M x f) (m : Md M X) : ∃ (C fI : Addr) (fd : FuncData) (ps : List Str), PySem.W.nsIn X.K mainGlobals x = some (some (.ref C)) ∧ X.mg x = some (.ref C) ∧ OexC X.K C ∧ PySem.W.findIn X.K (.ref C) "__init__" = some (some (.ref fI)) ∧ PySem.W.typeIn X.K (.ref fI) = some (.type "function") ∧
    FnOk X.prog X.w X.K X.mg X.base (L2N.CX X.prog X.w) 1 fI fd ps (spIni C f) ∧ Binds X.K fd ps [] := by
  obtain ⟨P, w, K, mg, base⟩ := M
  obtain ⟨h1, h2, h3, h4, h5⟩ := m
  simp only at h1 h2 h3 h4 h5
  subst h1 h2 h3 h4 h5
  exact T.ex
section
variable {X : Cx} {e : Expr} {es : List Expr} {ta : TA} {p p1 p2 pos : Pos}
/-- z.__init__(self, ..), z an own class that has none of its own -/
theorem pe_bsini {pl : Sem Bool} {z : Str} {B : Addr} (hg : Gl X z) (hm : X.mg z = some (.ref B)) (rd : ClX.CRead X.K B (.type "type")) (fc : PySem.W.findCls X.K (.ref B) (.type "type") "__init__" = some (.val (.builtin "ValueError.__init__"))) (ha : PA X (e :: es) ta) (hdb : (z == ("__debug__" : Str)) = false)
    (hc : eval (.Call (.Attribute (.Name z p1) "__init__" p2) (e :: es) [] pos) X.env = (do
      let ov ← eval (.Name z p1) X.env
      standAt p2.atName
      let (f, first) ← holding [ov] (getMethod ov "__init__" pl)
      callWith pos f first (backTo pos (starEach (e :: es) X.env)) (backToKw pos (keywordEach [] X.env))) := by rfl)
    (he : starEach (e :: es) X.env = (false, eval e X.env) :: starEach es X.env := by rfl) (hpl : (backTo pos (starEach es X.env)).any (·.1) = false := by rfl) :
    PE X (.Call (.Attribute (.Name z p1) "__init__" p2) (e :: es) [] pos) (tVeI X.K ta) := by
  refine ⟨fun pins s σ H Q I h => ?_⟩
  refine PySem.W.methodCall_KW (ld_glob I hg hm ?_ hdb) hc
  refine PySem.W.method_cls I.kIn rd.ga (PySem.W.cls_value I.kIn rd.rd fc rfl ?_)
  show wpAny _ _ (callWith pos (Value.builtin "ValueError.__init__") [] (backTo pos (starEach (e :: es) X.env)) []) _ _ _
  refine PyProof.Rows.callWith_method1 (thn (ha.run pos pins _ σ H _ (I.tok _) h) ?_) he hpl
  rintro us s1 ⟨vs, H1, I1, rr, a, C, ws, rfl, hl, T, ea, q⟩
  cases rr with
  | cons r0 rs =>
    cases r0
    exact oinit_ok T I1 ea (by rw [← rs.length, sizeLine_eq]; omega) fun s2 I2 => ⟨.non, H1, I2, rfl, q⟩
/-- x(e): the exception, its field kept -/
theorem pmk_ini {CX : CXT} {x f : Str} {C fI : Addr} {k : Nat} {fd : FuncData} {ps : List Str} (T : OexC X.K C) (iC : PySem.W.findIn X.K (.ref C) "__init__" = some (some (.ref fI))) (tI : PySem.W.typeIn X.K (.ref fI) = some (.type "function"))
    (F1 : FnOk X.prog X.w X.K X.mg X.base CX k fI fd ps (spIni C f)) (hr : Room (k + 1) X.A) (hb : Binds X.K fd ps []) (hx : Passes CX X (fun _ _ _ => False)) (hg : Gl X x) (hm : X.mg x = some (.ref C)) (ha : PA X [e] ta)
    (hdb : (x == ("__debug__" : Str)) = false) (he : starEach [e] X.env = [(false, eval e X.env)] := by rfl) :
    L2N.PMk X (.Call (.Name x p) [e] [] pos) (fun σ H Q => ta σ H fun vs H1 => ∃ y, vs = [y] ∧ ∀ d, H1 d = none → Q (.ref C) (some d) (upd H1 d (.xd [(f, y)]))) := by
  intro pins s σ H Q I h
  obtain ⟨_, _, _, _, bm, _, _, _, _, _, _, _, _, _, _, hC, hbm⟩ := T.cls
  refine wpAny_Call_Name_kw (ld_glob I hg hm ?_ hdb)
  refine PySem.W.callWith_K (h₀ := X.base) I.ok.mod.kin T.kC (thn (ha.run pos pins s σ H _ I h) ?_) he rfl
  rintro us s1 ⟨vs, H1, I1, r1, y, rfl, q⟩
  refine ⟨I1.kIn, ?_⟩
  show wpAny _ _ (call (.ref C) us) _ _ _
  obtain ⟨hp, g, dr, tk, os⟩ := s1
  generalize ha0 : hp.objs.size + 1 = a0
  have le0 : hp.objs.size ≤ a0 := by omega
  have n0 : H1 a0 = none := I1.hok.fresh le0
  have keep : ∀ b o, hp.get? b = some o → ((hp.push (PySem.W.kdv_tup us)).push (PySem.HandSPX.excO C hp.objs.size)).get? b = some o := fun b o z => Heap.get?_push_of_some _ (Heap.get?_push_of_some _ z)
  have there : ((hp.push (PySem.W.kdv_tup us)).push (PySem.HandSPX.excO C hp.objs.size)).get? a0 = some (PySem.HandSPX.excO C hp.objs.size) := by subst ha0; heap_get
  have I2 : Inv X pins σ (upd H1 a0 (exo a0 C none)) ⟨(hp.push (PySem.W.kdv_tup us)).push (PySem.HandSPX.excO C hp.objs.size), g, dr, tk, os⟩ := I1.laid (t' := tk) keep le0 (exo_ok there)
  have hq : spIni C f [.ref a0, y] (upd H1 a0 (exo a0 C none)) (fun v H2 => v = .non ∧ ∃ (d : Addr) (fs : List (Str × V)), H2 a0 = some (exo a0 C (some d)) ∧ H2 d = some (exd d fs) ∧ H1 d = none ∧ Q (.ref C) (some d) (upd (del H2 a0) d (.xd fs))) (fun _ _ _ => False) := by
    refine ⟨a0, y, rfl, upd_same, fun dx hd hne => ⟨rfl, dx, [(f, y)], upd_same, by rw [upd_ne hne, upd_same], ?_, ?_⟩⟩
    · rw [upd_ne hne] at hd
      exact hd
    · rw [upd_ne hne] at hd
      have e1 : upd (del (upd (upd (upd H1 a0 (exo a0 C none)) dx (exd dx [(f, y)])) a0 (exo a0 C (some dx))) a0) dx (.xd [(f, y)]) = upd H1 dx (.xd [(f, y)]) := by
        funext b
        by_cases hb : b = dx
        · rw [hb, upd_same, upd_same]
        · rw [upd_ne hb, upd_ne hb]
          by_cases hba : b = a0
          · rw [hba, del_same, n0]
          · rw [del_ne hba, upd_ne hba, upd_ne hb, upd_ne hba]
      rw [e1]
      exact q dx hd
  have r2 : Vals [V.ref a0, y] (Value.ref a0 :: us) := .cons rfl r1
  have ul : us.length = 1 := r1.length.symm
  have pl : (Value.ref a0 :: us).length = ps.length := by rw [← r2.length]; exact F1.len _ _ _ _ hq
  have bi := hb ⟨_, g, dr, tk, os⟩ (Value.ref a0 :: us) I2.kIn (by rw [List.append_nil]; exact pl)
  rw [List.append_nil] at bi
  refine wpAny_call (PySem.HandSPX.call_own F.excBase_ValueError (fun Y => PySem.HandSPX.refsVE_contains Y bm hbm) (I1.kIn _ _ hC) (PySem.W.looks_findIn I1.kIn iC) (fun self => PySem.W.bind_fn I1.kIn self tI) (by rw [ul, sizeLine_eq]; omega) ?_)
  rw [ha0]
  refine codeAny_mono (F1.run _ X.stack _ _ ⟨Value.ref a0 :: us, []⟩ _ _ _ (fun _ _ _ => False) (hr.make C us []) (I2.env0.make C us []) bi r2 hq) fun r s2 hz => ?_
  cases r with
  | error er => exact hx pins σ _ _ er s2 I2 hz
  | ok fl =>
    cases fl with
    | ret u =>
      obtain ⟨v, H2, o2, b2, u2, k2, rv, rfl, d, fs, ea, ed, hd1, q2⟩ := hz
      obtain ⟨h2, g2, d2, t2, os2⟩ := s2
      obtain ⟨t0, G, J, kG, ge, hoe, na⟩ := mk_end0 (d2 := d2) (t2 := t2) I1 le0 keep u2 k2 o2 b2 ea ed hd1
      exact ⟨rv, a0, _, _, ⟨G, g2, d2, t2, os2⟩, _, .ref C, some d, rfl, J, kG, ge, hoe, ⟨rfl, rfl, fun vs z => by cases z; rfl⟩, rfl, rfl, na, rfl, b2, raises_own T.exC T.tyC, q2⟩
    | next => exact False.elim hz
    | brk => exact False.elim hz
    | cont => exact False.elim hz
end
section
variable {M : Mod} {X : Cx} {W : WX} {k : Nat} {N : List Str} {vis loc : List Nat} {gls : List Str}
theorem passF : Passes (L2N.CX X.prog X.w) X (fun _ _ _ => False) := by
  rintro _ _ _ _ _ _ _ ⟨_, _, _, _, _, _, _, _, _, _, _, _, z⟩
  exact z.elim
theorem ds_raiseF (c : Ctx X W k N vis loc gls) (md : Md M X) {x f : Str} {e : Expr} {fe : Env → Sto → R D} {p pos pos' : Pos} (T : RsF M x f) (he : PE X e (tD X.K fe W)) (hk : 2 ≤ k) (hg : gls.contains x = true := by decide +kernel) (hdb : (x == ("__debug__" : Str)) = false := by decide +kernel)
    (hs : starEach [e] X.env = [(false, eval e X.env)] := by rfl) : PS X (.Raise (some (.Call (.Name x p) [e] [] pos')) none pos) (tS X.K (sRaiseF x f fe) W) := by
  obtain ⟨C, fI, fd, ps, h1, h2, h3, h4, h5, h6, h7⟩ := T.to md
  refine PS.imp (L2N.ps_raise c.calm c.tk (pmk_ini h3 h4 h5 h6 (c.hr.mono hk) h7 passF (c.hg x (by simpa using hg)) h2 (pa_cons he pa_nil hs) hdb hs)) fun D σ H ⟨ι, env, S, r, en, h⟩ => ?_
  refine ⟨ι, env, S, r, en, (endsS.bind en h).imp fun v H1 ⟨ι1, d, S1, _, e1, r1, d1, h1'⟩ => ⟨v, rfl, fun dx hd => ?_⟩⟩
  refine h1' ι1 _ (.ref C) (some dx) σ (Ext.junk _ hd) (r1.junk _ hd) ((en.mono e1.toGr).mono (Ext.junk _ hd).toGr) ⟨⟨C, h1, rfl⟩, dx, [(f, v)], rfl, upd_same, .cons (d1.mono (Ext.junk _ hd).toGr) .nil⟩
end
/-- the text of such an __init__ -/
theorem rsf_mk {M : Mod} {x f z m qual : Str} {st : Stmt} {C B fI : Addr} {fd : FuncData} {p1 p2 p3 p4 p5 p6 q1 q2 q3 q4 : Pos} {j : Nat} (hns : PySem.W.nsIn M.K mainGlobals x = some (some (.ref C))) (hC : M.mg x = some (.ref C)) (T : OexC M.K C)
    (iC : PySem.W.findIn M.K (.ref C) "__init__" = some (some (.ref fI))) (tI : PySem.W.typeIn M.K (.ref fI) = some (.type "function")) (fn : PySem.W.findIn M.K (.ref C) f = some none) (F : Fun M.K "__init__" qual st fI fd) (hb : Binds M.K fd ["self", f] []) (S : FnScope ["self", f] ["self", f] (defScope st))
    (hB : M.mg z = some (.ref B)) (rd : ClX.CRead M.K B (.type "type")) (fc : PySem.W.findCls M.K (.ref B) (.type "type") "__init__" = some (.val (.builtin "ValueError.__init__"))) (gz : (defScope st).names.lookup z = some .globalImplicit) (hdb : (z == ("__debug__" : Str)) = false) (hf : (f == ("__debug__" : Str)) = false) (hf2 : (f == ("__classdict__" : Str)) = false)
    (lf : (defScope st).names.lookup f = some .local) (ls : (defScope st).names.lookup ("self" : Str) = some .local)
    (hc : ∀ env : PySem.Env, ∃ pl : Sem Bool, eval (.Call (.Attribute (.Name z p1) "__init__" p2) [.Name "self" p3, .Constant (.str m) j p4] [] p5) env = (do
      let ov ← eval (.Name z p1) env
      standAt p2.atName
      let (f, first) ← holding [ov] (getMethod ov "__init__" pl)
      callWith p5 f first (backTo p5 (starEach [.Name "self" p3, .Constant (.str m) j p4] env)) (backToKw p5 (keywordEach [] env))))
    (hst : defBody st = [.Expr (.Call (.Attribute (.Name z p1) "__init__" p2) [.Name "self" p3, .Constant (.str m) j p4] [] p5) p6, .Assign [.Attribute (.Name "self" q1) f q2] (.Name f q3) q4]) : RsF M x f := by
  refine ⟨C, fI, fd, ["self", f], hns, hC, T, iC, tI, okN F S (fun vs H Q E ⟨a, y, e, _⟩ => by rw [e]; rfl) (fun cdv A outer s H vs Q E hr ⟨a, y, e, ha, q⟩ => ?_), hb⟩
  subst e
  obtain ⟨pl, hcx⟩ := hc (cxOf (L2N.CX M.P M.w) M.P M.w M.K M.mg M.base ["self", f] qual (defScope st) fI cdv A outer s H E).env
  refine ⟨_, by
    rw [hst]
    exact pss_cons (ps_expr (pe_bsini (B := B) gz hB rd fc (pa_cons (pe_var (i := 0) rfl (.inl ls) (by decide +kernel) (by decide +kernel)) (pa_cons pe_str pa_nil)) hdb hcx)) (pss_one (ps_ost (pe_var (i := 0) rfl (.inl ls) (by decide +kernel) (by decide +kernel)) (pe_var (i := 1) rfl (.inl lf) hf hf2))), ?_⟩
  refine ⟨_, rfl, a, C, [.str m], rfl, by show 1 ≤ 1000; decide, T, ha, ?_⟩
  refine ⟨_, rfl, _, rfl, a, C, rfl, T, fn, .inl ⟨ha, fun dx hd hne => q dx hd hne⟩⟩
end DL

namespace DL
open PySem PySem.Spec PyProof.Rows L2

/-! ### flat tuples: == and the order -/
def kpy : Key → PyData
  | .inl i => .int i
  | .inr s => .str s
def kOk : Key → Bool
  | .inl _ => true
  | .inr s => PyData.strOk s
abbrev tuD (ks : List Key) : D := .tup (ks.map kD)
abbrev tpy (ks : List Key) : PyData := .tuple (ks.map kpy)
def tOk (ks : List Key) : Bool := ks.all kOk
def kLt : Key → Key → Bool
  | .inl i, .inl j => decide (i < j)
  | .inr a, .inr b => decide (a.cps.toList < b.cps.toList)
  | .inl _, .inr _ => true
  | .inr _, .inl _ => false
def tLt : List Key → List Key → Bool
  | [], [] => false
  | [], _ :: _ => true
  | _ :: _, [] => false
  | x :: xs, y :: ys => if x = y then tLt xs ys else kLt x y
def kSame : Key → Key → Bool
  | .inl _, .inl _ => true
  | .inr _, .inr _ => true
  | _, _ => false
/-- the two can be compared -/
def tCmp : List Key → List Key → Bool
  | x :: xs, y :: ys => if x = y then tCmp xs ys else kSame x y
  | _, _ => true
/-- place by place of one kind -/
def tSame : List Key → List Key → Bool
  | x :: xs, y :: ys => kSame x y && tSame xs ys
  | _, _ => true
theorem str_ext {x y : Str} (h : x.cps.toList = y.cps.toList) : x = y := PySem.W.str_of_cps h
theorem cps_lt_irrefl (a : List Nat) : ¬ a < a := List.lt_irrefl a
theorem kLt_irrefl (x : Key) : kLt x x = false := by cases x <;> simp [kLt, List.lt_irrefl]
theorem kLt_trans {x y z : Key} (h1 : kLt x y = true) (h2 : kLt y z = true) : kLt x z = true := by
  cases x <;> cases y <;> cases z <;> simp [kLt] at * <;> first | omega | exact List.lt_trans h1 h2
theorem kLt_total {x y : Key} (h : x ≠ y) : kLt x y = true ∨ kLt y x = true := by
  cases x with
  | inl i =>
    cases y with
    | inl j =>
      have : i ≠ j := fun e => h (by rw [e])
      simp [kLt]; omega
    | inr b => simp [kLt]
  | inr a =>
    cases y with
    | inl j => simp [kLt]
    | inr b =>
      simp only [kLt, decide_eq_true_eq]
      by_cases h1 : a.cps.toList < b.cps.toList
      · exact .inl h1
      · by_cases h2 : b.cps.toList < a.cps.toList
        · exact .inr h2
        · exact absurd (congrArg Sum.inr (str_ext (List.le_antisymm (List.not_lt.mp h2) (List.not_lt.mp h1)))) h
theorem tLt_irrefl : ∀ x : List Key, tLt x x = false
  | [] => rfl
  | x :: xs => by simp [tLt, tLt_irrefl xs]
theorem tLt_trans : ∀ {x y z : List Key}, tLt x y = true → tLt y z = true → tLt x z = true
  | [], [], _, h, _ => by cases h
  | [], _ :: _, [], _, h => by cases h
  | [], _ :: _, _ :: _, _, _ => rfl
  | _ :: _, [], _, h, _ => by cases h
  | _ :: _, _ :: _, [], _, h => by cases h
  | x :: xs, y :: ys, z :: zs, h1, h2 => by
    simp only [tLt] at h1 h2 ⊢
    by_cases e1 : x = y
    · subst e1
      rw [if_pos rfl] at h1
      by_cases e2 : x = z
      · subst e2
        rw [if_pos rfl] at h2 ⊢
        exact tLt_trans h1 h2
      · rw [if_neg e2] at h2 ⊢
        exact h2
    · rw [if_neg e1] at h1
      by_cases e2 : y = z
      · subst e2
        rw [if_neg e1]
        exact h1
      · rw [if_neg e2] at h2
        have h3 := kLt_trans h1 h2
        have e3 : x ≠ z := by
          rintro rfl
          rw [kLt_irrefl] at h3
          cases h3
        rw [if_neg e3]
        exact h3
theorem tLt_total : ∀ {x y : List Key}, x ≠ y → tLt x y = true ∨ tLt y x = true
  | [], [], h => absurd rfl h
  | [], _ :: _, _ => .inl rfl
  | _ :: _, [], _ => .inr rfl
  | x :: xs, y :: ys, h => by
    simp only [tLt]
    by_cases e : x = y
    · subst e
      rw [if_pos rfl, if_pos rfl]
      exact tLt_total fun q => h (by rw [q])
    · rw [if_neg e, if_neg (Ne.symm e)]
      exact kLt_total e
theorem tLt_asymm {x y : List Key} (h : tLt x y = true) : tLt y x = false := by
  cases q : tLt y x with
  | false => rfl
  | true => have := tLt_trans h q; rw [tLt_irrefl] at this; cases this
/-- not behind -/
def tLe (x y : List Key) : Bool := !tLt y x
theorem tLe_total (x y : List Key) : (tLe x y || tLe y x) = true := by
  unfold tLe
  cases q : tLt y x with
  | false => rfl
  | true => rw [tLt_asymm q]; rfl
theorem tLe_trans (x y z : List Key) (h1 : tLe x y = true) (h2 : tLe y z = true) : tLe x z = true := by
  unfold tLe at *
  cases q : tLt z x with
  | false => rfl
  | true =>
    simp at h1 h2
    by_cases e : x = y
    · subst e; rw [h2] at q; cases q
    · rcases tLt_total e with h | h
      · rw [tLt_trans q h] at h2; cases h2
      · rw [h] at h1; cases h1
theorem tLe_antisymm {x y : List Key} (h1 : tLe x y = true) (h2 : tLe y x = true) : x = y := by
  unfold tLe at *
  simp at h1 h2
  by_cases e : x = y
  · exact e
  · rcases tLt_total e with h | h
    · rw [h] at h2; cases h2
    · rw [h] at h1; cases h1
/-- a sorted list of them is the only one -/
theorem sorted_eq {l m : List (List Key)} (p : l.Perm m) (a : l.Pairwise fun x y => tLe x y = true) (b : m.Pairwise fun x y => tLe x y = true) : l = m :=
  List.Perm.eq_of_pairwise (fun x y _ _ h1 h2 => tLe_antisymm h1 h2) a b p
theorem sort_sorted (l : List (List Key)) : (l.mergeSort tLe).Pairwise fun x y => tLe x y = true := List.pairwise_mergeSort tLe_trans tLe_total l

/-! ### what the model says of them -/
theorem kpy_inj {x y : Key} (h : kpy x = kpy y) : x = y := by
  cases x <;> cases y <;> simp [kpy] at h <;> rw [h]
theorem eqv_kpy (x y : Key) : PyData.eqv (kpy x) (kpy y) = decide (x = y) := by
  cases x <;> cases y <;> simp [kpy, PyData.eqv, Bool.beq_eq_decide_eq] <;> rfl
theorem eqvAll_kpy : ∀ xs ys : List Key, PyData.eqvAll (xs.map kpy) (ys.map kpy) = decide (xs = ys)
  | [], [] => by simp [PyData.eqvAll]
  | [], _ :: _ => by simp [PyData.eqvAll]
  | _ :: _, [] => by simp [PyData.eqvAll]
  | x :: xs, y :: ys => by
    simp only [List.map_cons, PyData.eqvAll, eqv_kpy, eqvAll_kpy xs ys]
    by_cases e : x = y <;> by_cases e2 : xs = ys <;> simp [e, e2]
theorem eqv_tpy (xs ys : List Key) : PyData.eqv (tpy xs) (tpy ys) = decide (xs = ys) := by
  simp only [tpy, PyData.eqv]
  exact eqvAll_kpy xs ys
theorem eqvAll_tpy : ∀ xs ys : List (List Key), PyData.eqvAll (xs.map tpy) (ys.map tpy) = decide (xs = ys)
  | [], [] => by simp [PyData.eqvAll]
  | [], _ :: _ => by simp [PyData.eqvAll]
  | _ :: _, [] => by simp [PyData.eqvAll]
  | x :: xs, y :: ys => by
    simp only [List.map_cons, PyData.eqvAll, eqv_tpy, eqvAll_tpy xs ys]
    by_cases e : x = y <;> by_cases e2 : xs = ys <;> simp [e, e2]
theorem toPy_kD (S : Sto) (n : Nat) (k : Key) : toPy S (n + 1) (kD k) = some (kpy k) := by cases k <;> rfl
theorem mapM_toPy {α : Type} (S : Sto) (n : Nat) (f : α → D) (g : α → PyData) (h : ∀ a, toPy S n (f a) = some (g a)) : ∀ l : List α, (l.map f).mapM (toPy S n) = some (l.map g)
  | [] => rfl
  | a :: l => by rw [List.map_cons, List.mapM_cons, h a, mapM_toPy S n f g h l]; rfl
theorem mapM_toPy' {α : Type} (S : Sto) (n : Nat) (f : α → D) (g : α → PyData) : ∀ l : List α, (∀ a ∈ l, toPy S n (f a) = some (g a)) → (l.map f).mapM (toPy S n) = some (l.map g)
  | [], _ => rfl
  | a :: l, h => by rw [List.map_cons, List.mapM_cons, h a (by simp), mapM_toPy' S n f g l fun b hb => h b (List.mem_cons_of_mem _ hb)]; rfl
theorem toPy_tD (S : Sto) (n : Nat) (ks : List Key) : toPy S (n + 2) (tuD ks) = some (tpy ks) := by
  show ((ks.map kD).mapM (toPy S (n + 1))).map PyData.tuple = _
  rw [mapM_toPy S (n + 1) kD kpy (toPy_kD S n)]
  rfl
theorem toPy_lst {S : Sto} {r n : Nat} {ts : List (List Key)} (h : S[r]? = some (.lst (ts.map tuD))) : toPy S (n + 3) (.ref r) = some (.list (ts.map tpy)) := by
  show (match S[r]? with | some (.lst xs) => (xs.mapM (toPy S (n + 2))).map PyData.list | _ => none) = _
  rw [h]
  simp only
  rw [mapM_toPy S (n + 2) tuD tpy (toPy_tD S n)]
  rfl
theorem canLay_k {k : Key} (h : kOk k = true) : (kpy k).canLay0 = true := by
  cases k with
  | inl i => simp [kpy, PyData.canLay0]
  | inr s => simp only [kpy, PyData.canLay0]; exact h
theorem canLayAll_k : ∀ {ks : List Key}, tOk ks = true → PyData.canLayAll0 (ks.map kpy) = true
  | [], _ => by simp [PyData.canLayAll0]
  | k :: ks, h => by
    simp only [tOk, List.all_cons, Bool.and_eq_true] at h
    simp only [List.map_cons, PyData.canLayAll0, canLay_k h.1, Bool.true_and]
    exact canLayAll_k h.2
theorem canLay_t {ks : List Key} (h : tOk ks = true) : (tpy ks).canLay0 = true := by
  simp only [tpy, PyData.canLay0]
  exact canLayAll_k h
theorem canLayAll_t : ∀ {ts : List (List Key)}, (∀ t ∈ ts, tOk t = true) → PyData.canLayAll0 (ts.map tpy) = true
  | [], _ => by simp [PyData.canLayAll0]
  | k :: ks, h => by
    simp only [List.map_cons, PyData.canLayAll0, canLay_t (h k (by simp)), Bool.true_and]
    exact canLayAll_t fun t ht => h t (List.mem_cons_of_mem _ ht)
theorem depth_k (k : Key) : (kpy k).depth = 0 := by cases k <;> simp [kpy, PyData.depth]
theorem depthAll_k : ∀ ks : List Key, PyData.depthAll (ks.map kpy) = 0
  | [] => by simp [PyData.depthAll]
  | k :: ks => by simp [PyData.depthAll, depth_k, depthAll_k ks]
theorem depth_t (ks : List Key) : (tpy ks).depth = 1 := by simp [tpy, PyData.depth, depthAll_k]
theorem depthAll_t : ∀ ts : List (List Key), PyData.depthAll (ts.map tpy) ≤ 1
  | [] => by simp [PyData.depthAll]
  | t :: ts => by
    have := depthAll_t ts
    simp only [List.map_cons, PyData.depthAll]
    rw [show (tpy t).depth = 1 from depth_t t]
    exact Nat.max_le.mpr ⟨Nat.le_refl _, this⟩
theorem shaped_k {k : Key} (h : kOk k = true) : SeqAt.shaped (kpy k) = true := by simp [SeqAt.shaped, canLay_k h, depth_k]
theorem shaped_t {ks : List Key} (h : tOk ks = true) : SeqAt.shaped (tpy ks) = true := by simp [SeqAt.shaped, canLay_t h, depth_t]
theorem shaped_l {ts : List (List Key)} (h : ∀ t ∈ ts, tOk t = true) : SeqAt.shaped (.list (ts.map tpy)) = true := by
  have := depthAll_t ts
  simp only [SeqAt.shaped, PyData.canLay0, canLayAll_t h, Bool.true_and, PyData.depth, decide_eq_true_eq]
  exact decide_eq_true (Nat.le_trans (Nat.succ_le_succ this) (by decide : (2 : Nat) ≤ 64))
/-- == of keys, of tuples, of lists of tuples -/
theorem dEqB_k {S : Sto} {x y : Key} (hx : kOk x = true) (hy : kOk y = true) : dEqB S (kD x) (kD y) = some (decide (x = y)) := by
  unfold dEqB
  rw [toPy_kD S 11, toPy_kD S 11]
  simp only [shaped_k hx, shaped_k hy, and_self, if_true, eqv_kpy]
theorem dEqB_t {S : Sto} {x y : List Key} (hx : tOk x = true) (hy : tOk y = true) : dEqB S (tuD x) (tuD y) = some (decide (x = y)) := by
  unfold dEqB
  rw [toPy_tD S 10, toPy_tD S 10]
  simp only [shaped_t hx, shaped_t hy, and_self, if_true, eqv_tpy]
theorem dEqB_l {S : Sto} {r q : Nat} {xs ys : List (List Key)} (h1 : S[r]? = some (.lst (xs.map tuD))) (h2 : S[q]? = some (.lst (ys.map tuD))) (hx : ∀ t ∈ xs, tOk t = true) (hy : ∀ t ∈ ys, tOk t = true) : dEqB S (.ref r) (.ref q) = some (decide (xs = ys)) := by
  unfold dEqB
  rw [toPy_lst (n := 9) h1, toPy_lst (n := 9) h2]
  have e : PyData.eqv (.list (xs.map tpy)) (.list (ys.map tpy)) = decide (xs = ys) := by
    simp only [PyData.eqv]
    exact eqvAll_tpy xs ys
  simp only [shaped_l hx, shaped_l hy, and_self, if_true, e]
theorem ordPs_t : ∀ {xs ys : List Key}, tCmp xs ys = true → ordPs .Lt (xs.map kpy) (ys.map kpy) = some (tLt xs ys)
  | [], [], _ => by simp [ordPs, opO, tLt]
  | [], _ :: _, _ => by simp [ordPs, opO, tLt]
  | _ :: _, [], _ => by simp [ordPs, opO, tLt]
  | x :: xs, y :: ys, h => by
    simp only [List.map_cons, ordPs, eqv_kpy, decide_eq_true_eq, tLt]
    simp only [tCmp] at h
    by_cases e : x = y
    · rw [if_pos e] at h
      rw [if_pos e, if_pos e]
      exact ordPs_t h
    · rw [if_neg e] at h
      rw [if_neg e, if_neg e]
      cases x <;> cases y <;> simp [kSame] at h <;> simp [kpy, ordP, opO, kLt]
theorem dOrd_t {S : Sto} {xs ys : List Key} (hx : tOk xs = true) (hy : tOk ys = true) (h : tCmp xs ys = true) : dOrd .Lt (tuD xs) (tuD ys) S = .ok (.bl (tLt xs ys)) S := by
  unfold dOrd
  rw [toPy_tD S 10, toPy_tD S 10]
  simp only [shaped_t hx, shaped_t hy, and_self, if_true, tpy, ordP, ordPs_t h]
  rfl
theorem alike_k {x y : Key} (h : kSame x y = true) : PySem.W.alike (kpy x) (kpy y) = true := by
  cases x <;> cases y <;> simp [kSame] at h <;> simp [kpy, PySem.W.alike]
theorem alikeAll_k : ∀ {xs ys : List Key}, tSame xs ys = true → PySem.W.alikeAll (xs.map kpy) (ys.map kpy) = true
  | [], [], _ => by simp [PySem.W.alikeAll]
  | [], _ :: _, _ => by simp [PySem.W.alikeAll]
  | _ :: _, [], _ => by simp [PySem.W.alikeAll]
  | x :: xs, y :: ys, h => by
    simp only [tSame, Bool.and_eq_true] at h
    simp only [List.map_cons, PySem.W.alikeAll, alike_k h.1, alikeAll_k h.2, Bool.and_self]
theorem dataLt_k {x y : Key} (h : kSame x y = true) : PySem.W.dataLt (kpy x) (kpy y) = kLt x y := by
  cases x <;> cases y <;> simp [kSame] at h <;> simp [kpy, kLt, PySem.W.dataLt_int, PySem.W.dataLt_str]
theorem rowLt_t : ∀ {xs ys : List Key}, tSame xs ys = true → PyProof.Rows.lexLt PyProof.Rows.itemOrd (PySem.W.keyToksAll (xs.map kpy)) (PySem.W.keyToksAll (ys.map kpy)) = tLt xs ys
  | [], [], _ => PyProof.Rows.lex_irrefl _
  | [], y :: ys, _ => by
    simp only [List.map_nil, List.map_cons, PySem.W.keyToksAll, tLt]
    rw [PySem.W.lex_atom (by simp)]
    decide
  | x :: xs, [], _ => by
    simp only [List.map_nil, List.map_cons, PySem.W.keyToksAll, tLt]
    rw [PySem.W.lex_atom (by simp)]
    decide
  | x :: xs, y :: ys, h => by
    simp only [tSame, Bool.and_eq_true] at h
    rw [List.map_cons, List.map_cons, PySem.W.dataLt_cons (alike_k h.1), eqv_kpy]
    simp only [tLt, decide_eq_true_eq]
    by_cases e : x = y
    · rw [if_pos e, if_pos e]
      exact rowLt_t h.2
    · rw [if_neg e, if_neg e]
      exact dataLt_k h.1
theorem dataLt_t {xs ys : List Key} (h : tSame xs ys = true) : PySem.W.dataLt (tpy xs) (tpy ys) = tLt xs ys := by
  rw [PySem.W.dataLt_tuple]
  exact rowLt_t h
theorem keyD_t (S : Sto) (t : List Key) : keyD S (tuD t) = tpy t := by unfold keyD; rw [toPy_tD S 10]; rfl
theorem dataLe_t {S : Sto} {xs ys : List Key} (h : tSame ys xs = true) : PySem.W.dataLe false (keyD S) (tuD xs) (tuD ys) = tLe xs ys := by
  rw [PySem.W.dataLe_eq]
  show (!PySem.W.dataLt (keyD S (tuD ys)) (keyD S (tuD xs))) = _
  rw [keyD_t, keyD_t, dataLt_t h]
  rfl
/-- sorted(xs) of alike tuples -/
theorem bSort_t {S : Sto} {ts : List (List Key)} (l : LS) (hl : getB l S = .ok (ts.map tuD) S) (hs : ∀ x ∈ ts, ∀ y ∈ ts, tSame x y = true) (hn : ∀ x ∈ ts, x ≠ []) (hz : ts.length ≤ sizeLine) : bSort l S = .ok ((ts.mergeSort tLe).map tuD) S := by
  unfold bSort
  rw [hl]
  have km : (ts.map tuD).map (keyD S) = ts.map tpy := by rw [List.map_map]; exact List.map_congr_left fun t _ => keyD_t S t
  refine (if_pos ?_).trans ?_
  rotate_left
  · congr 1
    exact (List.map_mergeSort fun a ha b hb => (dataLe_t (hs b hb a ha)).symm).symm
  · refine ⟨fun x hx => ?_, ?_, ?_, ?_, fun x hx => ?_⟩
    · obtain ⟨t, ht, rfl⟩ := List.mem_map.mp hx
      rw [toPy_tD S 10]
      rfl
    · rw [km]
      intro d hd d' hd'
      obtain ⟨t, ht, rfl⟩ := List.mem_map.mp hd
      obtain ⟨t', ht', rfl⟩ := List.mem_map.mp hd'
      show PySem.W.alike (.tuple _) (.tuple _) = true
      simp only [PySem.W.alike]
      exact alikeAll_k (hs t ht t' ht')
    · rw [km]
      refine .inl fun d hd => ?_
      obtain ⟨t, ht, rfl⟩ := List.mem_map.mp hd
      cases t with
      | nil => exact absurd rfl (hn _ ht)
      | cons x r => exact ⟨kpy x, r.map kpy, rfl⟩
    · simpa [small] using hz
    · obtain ⟨t, ht, rfl⟩ := List.mem_map.mp hx
      rw [keyD_t, depth_t]
      omega
end DL

namespace DL
open PySem PySem.Spec PyProof.Rows L2

/-! ### what holds behind -/
def R.W {α : Type} (r : R α) (Q : α → Sto → Prop) : Prop := match r with
  | .ok a S => Q a S
  | _ => False
def RS.W (r : RS) (N : DL.Env → Sto → Prop) (T : D → Sto → Prop) : Prop := match r with
  | .nx e S => N e S
  | .rt d S => T d S
  | _ => False
section
variable {α β : Type}
theorem R.W_ok {a : α} {S : Sto} {Q : α → Sto → Prop} : (R.ok a S).W Q = Q a S := rfl
theorem R.W_bad {Q : α → Sto → Prop} : (R.bad : R α).W Q = False := rfl
theorem R.W_bind {r : R α} {k : α → Sto → R β} {Q : β → Sto → Prop} : (r.bind k).W Q = r.W fun a S => (k a S).W Q := by cases r <;> rfl
theorem R.W_ofO {o : Option α} {S : Sto} {Q : α → Sto → Prop} : (R.ofO o S).W Q = ∃ a, o = some a ∧ Q a S := by
  cases o with
  | none => simp [R.ofO, R.W]
  | some a => simp [R.ofO, R.W]
theorem R.W_ite {c : Prop} [Decidable c] {r r' : R α} {Q : α → Sto → Prop} : (if c then r else r').W Q = if c then r.W Q else r'.W Q := by split <;> rfl
theorem R.W_calm {r : R α} {Q : α → Sto → Prop} : r.calm.W Q = r.W Q := by cases r <;> rfl
theorem RS.W_nx {e : DL.Env} {S : Sto} {N T} : (RS.nx e S).W N T = N e S := rfl
theorem RS.W_rt {e : D} {S : Sto} {N T} : (RS.rt e S).W N T = T e S := rfl
theorem RS.W_bad {N T} : (RS.bad).W N T = False := rfl
theorem RS.W_seq {r : R α} {env : DL.Env} {k : α → Sto → RS} {N T} : (r.seq env k).W N T = r.W fun a S => (k a S).W N T := by cases r <;> rfl
theorem RS.W_bind {r : RS} {k : DL.Env → Sto → RS} {N T} : (r.bind k).W N T = r.W (fun e S => (k e S).W N T) T := by cases r <;> rfl
theorem RS.W_ite {c : Prop} [Decidable c] {r r' : RS} {N T} : (if c then r else r').W N T = if c then r.W N T else r'.W N T := by split <;> rfl
theorem R.W_ret {rs : RS} {Q : D → Sto → Prop} : (retOf rs).W Q = rs.W (fun _ S => Q .non S) Q := by cases rs <;> rfl
theorem R.W.mono {r : R α} {Q Q' : α → Sto → Prop} (h : r.W Q) (q : ∀ a S, Q a S → Q' a S) : r.W Q' := by
  cases r with
  | ok a S => exact q a S h
  | err _ _ => exact h.elim
  | bad => exact h.elim
theorem RS.W.mono {r : RS} {N T N' T'} (h : r.W N T) (q : ∀ e S, N e S → N' e S) (q' : ∀ d S, T d S → T' d S) : r.W N' T' := by
  cases r with
  | nx e S => exact q e S h
  | rt d S => exact q' d S h
  | _ => exact h.elim
theorem R.W.ok {r : R α} {Q : α → Sto → Prop} (h : r.W Q) : ∃ a S, r = .ok a S ∧ Q a S := by
  cases r with
  | ok a S => exact ⟨a, S, rfl, h⟩
  | err _ _ => exact h.elim
  | bad => exact h.elim
end
/-- for -/
theorem W_for {asg : Asg} {body : DL.Env → Sto → RS} {g : Sto → Prop} {N : DL.Env → Sto → Prop} {T : D → Sto → Prop} (Inv : Nat → DL.Env → Sto → Prop) (xs : List D) (hg : ∀ i env S, Inv i env S → g S)
    (step : ∀ i x env S, xs[i]? = some x → Inv i env S → ∃ e1, asg x env = some e1 ∧ (body e1 S).W (Inv (i + 1)) T) (hN : ∀ env S, Inv xs.length env S → N env S) {env : DL.Env} {S : Sto} (h0 : Inv 0 env S) : (fFor asg body g xs env S).W N T := by
  have go : ∀ (m i : Nat) (env : DL.Env) (S : Sto), i + m = xs.length → Inv i env S → (fFor asg body g (xs.drop i) env S).W N T := by
    intro m
    induction m with
    | zero =>
      intro i env S he h
      rw [List.drop_eq_nil_of_le (by omega)]
      simp only [fFor]
      rw [if_pos (hg i env S h)]
      exact hN env S (by rw [← he]; exact h)
    | succ m ih =>
      intro i env S he h
      have hi : i < xs.length := by omega
      rw [List.drop_eq_getElem_cons hi]
      simp only [fFor]
      rw [if_pos (hg i env S h)]
      obtain ⟨e1, ea, hb⟩ := step i xs[i] env S (List.getElem?_eq_getElem hi) h
      rw [ea]
      simp only
      cases q : body e1 S with
      | nx e2 S2 => rw [q] at hb; exact ih (i + 1) e2 S2 (by omega) hb
      | rt d S2 => rw [q] at hb; exact hb
      | bk e2 S2 => rw [q] at hb; exact hb.elim
      | ct e2 S2 => rw [q] at hb; exact hb.elim
      | err x e2 S2 => rw [q] at hb; exact hb.elim
      | bad => rw [q] at hb; exact hb.elim
  have := go xs.length 0 env S (by omega) h0
  rwa [List.drop_zero] at this
/-- while -/
theorem W_wh {fc : DL.Env → Sto → R Bool} {body : DL.Env → Sto → RS} {N : DL.Env → Sto → Prop} {T : D → Sto → Prop} (Inv : Nat → DL.Env → Sto → Prop)
    (step : ∀ m env S, Inv m env S → (fc env S).W fun b S1 => if b = true then 0 < m ∧ (body env S1).W (Inv (m - 1)) T else N env S1) : ∀ (n m : Nat) (env : DL.Env) (S : Sto), m < n → Inv m env S → (fWh fc body n env S).W N T
  | 0, m, _, _, h, _ => absurd h (Nat.not_lt_zero _)
  | n + 1, m, env, S, h, hi => by
    show ((fc env S).seq env _).W N T
    rw [RS.W_seq]
    refine (step m env S hi).mono fun b S1 hb => ?_
    cases b with
    | false => exact hb
    | true =>
      obtain ⟨hm, hb⟩ := hb
      simp only
      cases q : body env S1 with
      | nx e2 S2 => rw [q] at hb; exact W_wh Inv step n (m - 1) e2 S2 (by omega) hb
      | rt d S2 => rw [q] at hb; exact hb
      | bk e2 S2 => rw [q] at hb; exact hb.elim
      | ct e2 S2 => rw [q] at hb; exact hb.elim
      | err x e2 S2 => rw [q] at hb; exact hb.elim
      | bad => rw [q] at hb; exact hb.elim
/-- a comprehension -/
theorem W_comp {asg : Asg} {ft : DL.Env → Sto → R Bool} {fe : DL.Env → Sto → R D} {g : Sto → Prop} {env : DL.Env} {Q : List D → Sto → Prop} (Inv : Nat → List D → Sto → Prop) (xs : List D) (hg : ∀ i acc S, Inv i acc S → g S)
    (step : ∀ i x acc S, xs[i]? = some x → Inv i acc S → ∃ e1, asg x env = some e1 ∧ (ft e1 S).W fun b S1 => if b then (fe e1 S1).W fun d S2 => Inv (i + 1) (acc ++ [d]) S2 else Inv (i + 1) acc S1) (hQ : ∀ acc S, Inv xs.length acc S → Q acc S) {S : Sto} (h0 : Inv 0 [] S) : (fComp asg ft fe g env xs S).W Q := by
  have go : ∀ (m i : Nat) (acc : List D) (S : Sto), i + m = xs.length → Inv i acc S → (fComp asg ft fe g env (xs.drop i) S).W fun ds S' => Q (acc ++ ds) S' := by
    intro m
    induction m with
    | zero =>
      intro i acc S he h
      rw [List.drop_eq_nil_of_le (by omega)]
      simp only [fComp]
      rw [if_pos (hg i acc S h)]
      show Q (acc ++ []) S
      rw [List.append_nil]
      exact hQ acc S (by rw [← he]; exact h)
    | succ m ih =>
      intro i acc S he h
      have hi : i < xs.length := by omega
      rw [List.drop_eq_getElem_cons hi]
      simp only [fComp]
      rw [if_pos (hg i acc S h)]
      obtain ⟨e1, ea, hb⟩ := step i xs[i] acc S (List.getElem?_eq_getElem hi) h
      rw [ea]
      simp only
      rw [R.W_bind, R.W_calm]
      refine hb.mono fun b S1 hb => ?_
      cases b with
      | false => exact ih (i + 1) acc S1 (by omega) hb
      | true =>
        simp only
        rw [R.W_bind, R.W_calm]
        refine (show (fe e1 S1).W _ from hb).mono fun d S2 hd => ?_
        rw [R.W_bind]
        refine (ih (i + 1) (acc ++ [d]) S2 (by omega) hd).mono fun ds S3 hq => ?_
        show Q (acc ++ d :: ds) S3
        simpa using hq
  have := go xs.length 0 [] S (by omega) h0
  rw [List.drop_zero] at this
  simpa using this
/-- .. where nothing changes -/
theorem comp_pure {α : Type} {asg : Asg} {ft : DL.Env → Sto → R Bool} {fe : DL.Env → Sto → R D} {g : Sto → Prop} {env : DL.Env} {S : Sto} (hg : g S) (emb : α → D) (p : α → Bool) (f : α → D) : ∀ l : List α,
    (∀ a ∈ l, ∃ e1, asg (emb a) env = some e1 ∧ ft e1 S = .ok (p a) S ∧ (p a = true → fe e1 S = .ok (f a) S)) → fComp asg ft fe g env (l.map emb) S = .ok ((l.filter p).map f) S
  | [], _ => by simp only [List.map_nil, fComp]; rw [if_pos hg]; rfl
  | a :: l, h => by
    obtain ⟨e1, h1, h2, h3⟩ := h a (by simp)
    have ih := comp_pure hg emb p f l fun b hb => h b (List.mem_cons_of_mem _ hb)
    simp only [List.map_cons, fComp]
    rw [if_pos hg, h1]
    simp only [h2, R.calm, R.bind]
    cases q : p a with
    | true => simp only [h3 q, R.calm, R.bind, ih, List.filter_cons, q, if_true, List.map_cons]
    | false => simp [ih, List.filter_cons, q]
/-! ### numbers -/
theorem lg_lt {i : Int} {k : Nat} (hk : 0 < k) (h : i.natAbs < 2 ^ k) : i.natAbs.log2 < k := by
  by_cases z : i.natAbs = 0
  · rw [z]; simpa using hk
  · exact (Nat.log2_lt z).mpr h
theorem mul_ok {i j : Int} {S : Sto} {a b : Nat} (ha : 0 < a) (hb : 0 < b) (hi : i.natAbs < 2 ^ a) (hj : j.natAbs < 2 ^ b) (hab : a + b ≤ 1000000) : dMul (.int i) (.int j) S = .ok (.int (i * j)) S := by
  have h1 := lg_lt ha hi
  have h2 := lg_lt hb hj
  show (if i.natAbs.log2 + j.natAbs.log2 < 1000000 then R.ok (D.int (i * j)) S else .bad) = _
  rw [if_pos (by omega)]
theorem div_ok {i j : Int} {S : Sto} (h0 : 0 < j) (hj : j.natAbs < 2 ^ 8000) : dDiv (.int i) (.int j) S = .ok (.int (i / j)) S := by
  have h2 := lg_lt (by decide) hj
  show (if 0 < j ∧ j.natAbs.log2 < 9000 then R.ok (D.int (i / j)) S else .bad) = _
  rw [if_pos ⟨h0, by omega⟩]
theorem mod_ok {i j : Int} {S : Sto} (h0 : 0 < j) : dMod (.int i) (.int j) S = .ok (.int (i % j)) S := by
  show (if 0 < j then R.ok (D.int (i % j)) S else .bad) = _
  rw [if_pos h0]
theorem lt_ok {i j : Int} {S : Sto} : dOrd .Lt (.int i) (.int j) S = .ok (.bl (decide (i < j))) S := by
  simp [dOrd, toPy, SeqAt.shaped, PyData.canLay0, PyData.depth, ordP, opO, ofB]
theorem le_ok {i j : Int} {S : Sto} : dOrd .LtE (.int i) (.int j) S = .ok (.bl (decide (i ≤ j))) S := by
  have : (!decide (j < i)) = decide (i ≤ j) := by by_cases h : i ≤ j <;> simp [h] <;> omega
  simp [dOrd, toPy, SeqAt.shaped, PyData.canLay0, PyData.depth, ordP, opO, ofB, this]
theorem ge_ok {i j : Int} {S : Sto} : dOrd .GtE (.int i) (.int j) S = .ok (.bl (decide (j ≤ i))) S := by
  have : (!decide (i < j)) = decide (j ≤ i) := by by_cases h : j ≤ i <;> simp [h] <;> omega
  simp [dOrd, toPy, SeqAt.shaped, PyData.canLay0, PyData.depth, ordP, opO, ofB, this]
theorem eq_int {i j : Int} {S : Sto} : dEq (.int i) (.int j) S = .ok (.bl (decide (i = j))) S := by
  have := dEqB_k (S := S) (x := .inl i) (y := .inl j) rfl rfl
  unfold dEq
  rw [show dEqB S (.int i) (.int j) = some (decide (i = j)) by simpa [kD] using this]
  rfl
theorem ne_int {i j : Int} {S : Sto} : dNe (.int i) (.int j) S = .ok (.bl (!decide (i = j))) S := by
  have := dEqB_k (S := S) (x := .inl i) (y := .inl j) rfl rfl
  unfold dNe
  rw [show dEqB S (.int i) (.int j) = some (decide (i = j)) by simpa [kD] using this]
  rfl
end DL

namespace DL
open PySem PySem.Spec PyProof.Rows L2

/-! ### running: one word for simp -/
theorem ev1 :
  (∀ (i : Nat) (env : DL.Env) (S : Sto), eVar i env S = match env[i]? with | some (some d) => .ok d S | _ => .bad) ∧
  (∀ (d : D) (env : DL.Env) (S : Sto), eC d env S = .ok d S) ∧
  (∀ (g : D → D → Sto → R D) (fa fb : DL.Env → Sto → R D) (env : DL.Env) (S : Sto), eBin g fa fb env S = (fa env S).bind fun x S1 => (fb env S1).bind fun y S2 => g x y S2) ∧
  (∀ (env : DL.Env) (S : Sto), aNil env S = .ok [] S) ∧
  (∀ (fa : DL.Env → Sto → R D) (fr : DL.Env → Sto → R (List D)) (env : DL.Env) (S : Sto), aCons fa fr env S = (fa env S).bind fun x S1 => (fr env S1).bind fun xs S2 => .ok (x :: xs) S2) ∧
  (∀ (fs : DL.Env → Sto → R (List D)) (env : DL.Env) (S : Sto), eTup fs env S = (fs env S).bind fun xs S1 => if small xs.length then .ok (.tup xs) S1 else .bad) ∧
  (∀ (fs : DL.Env → Sto → R (List D)) (env : DL.Env) (S : Sto), lLst fs env S = (fs env S).bind fun xs S1 => if small xs.length then .ok xs S1 else .bad) ∧
  (∀ (fl : DL.Env → Sto → R (List D)) (env : DL.Env) (S : Sto), eNew fl env S = (fl env S).bind fun xs S1 => .ok (.ref S1.length) (S1 ++ [.lst xs])) ∧
  (∀ (fl : DL.Env → Sto → R (List D)) (fb : DL.Env → Sto → R D) (env : DL.Env) (S : Sto), lIx fl fb env S = (fl env S).bind fun xs S1 => (fb env S1).bind fun y S2 => match y with | .int i => R.ofO (L2.atI xs i) S2 | _ => .bad) ∧
  (∀ (n : Nat) (g : Fn) (fa : DL.Env → Sto → R (List D)) (env : DL.Env) (S : Sto), eCall n g fa env S = (fa env S).bind fun xs S1 => if xs.length = n then g xs S1 else .bad) ∧
  (∀ (fa : DL.Env → Sto → R D) (env : DL.Env) (S : Sto), eTst fa env S = (fa env S).bind fun x S1 => match x with | .bl b => .ok b S1 | _ => .bad) ∧
  (∀ (fa : DL.Env → Sto → R D) (env : DL.Env) (S : Sto), eTru fa env S = (fa env S).bind fun x S1 => R.ofO (dTruth x S1) S1) ∧
  (∀ (fa : DL.Env → Sto → R Bool) (env : DL.Env) (S : Sto), bNot fa env S = (fa env S).bind fun b S1 => .ok (!b) S1) ∧
  (∀ (fa : DL.Env → Sto → R (List D)) (g : List D → Sto → R D) (env : DL.Env) (S : Sto), eB fa g env S = (fa env S).bind g) ∧
  (∀ (g : D → Sto → R D) (x : D) (S : Sto), g1 g [x] S = g x S) ∧
  (∀ (g : D → D → Sto → R D) (x y : D) (S : Sto), g2 g [x, y] S = g x y S) ∧
  (∀ (fl : DL.Env → Sto → R (List D)) (env : DL.Env) (S : Sto), sTm fl env S = (fl env S).bind fun xs S1 => .ok (.tm xs) S1) ∧
  (∀ (fa : DL.Env → Sto → R D) (env : DL.Env) (S : Sto), sRf fa env S = (fa env S).bind fun x S1 => .ok (.rf x) S1) := ⟨fun _ _ _ => rfl, fun _ _ _ => rfl, fun _ _ _ _ _ => rfl, fun _ _ => rfl, fun _ _ _ _ => rfl, fun _ _ _ => rfl, fun _ _ _ => rfl, fun _ _ _ => rfl, fun _ _ _ _ => rfl, fun _ _ _ _ _ => rfl, fun _ _ _ => rfl, fun _ _ _ => rfl, fun _ _ _ => rfl, fun _ _ _ _ => rfl, fun _ _ _ => rfl, fun _ _ _ _ => rfl, fun _ _ _ => rfl, fun _ _ _ => rfl⟩
theorem ev2 :
  (∀ (f g : DL.Env → Sto → RS) (env : DL.Env) (S : Sto), sSeq f g env S = (f env S).bind g) ∧
  (∀ (env : DL.Env) (S : Sto), sNx env S = .nx env S) ∧
  (∀ (fc : DL.Env → Sto → R Bool) (f g : DL.Env → Sto → RS) (env : DL.Env) (S : Sto), sIf fc f g env S = (fc env S).seq env fun b S1 => match b with | true => f env S1 | false => g env S1) ∧
  (∀ (fe : DL.Env → Sto → R D) (env : DL.Env) (S : Sto), sRet fe env S = (fe env S).seq env fun d S1 => .rt d S1) ∧
  (∀ (fe : DL.Env → Sto → R D) (env : DL.Env) (S : Sto), sExp fe env S = (fe env S).seq env fun _ S1 => .nx env S1) ∧
  (∀ (i : Nat) (fe : DL.Env → Sto → R D) (env : DL.Env) (S : Sto), sSet i fe env S = (fe env S).seq env fun d S1 => .nx (env.set i (some d)) S1) ∧
  (∀ (i : Nat) (fl : DL.Env → Sto → R (List D)) (env : DL.Env) (S : Sto), sNew i fl env S = (fl env S).seq env fun xs S1 => .nx (env.set i (some (.ref S1.length))) (S1 ++ [.lst xs])) ∧
  (∀ (fo fi fv : DL.Env → Sto → R D) (env : DL.Env) (S : Sto), sPut fo fi fv env S = (fv env S).seq env fun v S1 => (fo env S1).seq env fun o S2 => (fi env S2).seq env fun i S3 => match putIt o i v S3 with | some S4 => .nx env S4 | none => .bad) ∧
  (∀ (a : Asg) (fe : DL.Env → Sto → R D) (env : DL.Env) (S : Sto), sAsg a fe env S = (fe env S).seq env fun d S1 => match a d env with | some e => .nx e S1 | none => .bad) ∧
  (∀ (fi : DL.Env → Sto → R Src) (asg : Asg) (body : DL.Env → Sto → RS) (env : DL.Env) (S : Sto), sFor fi asg body env S = (fi env S).seq env fun s S1 => fFor asg body s.g s.xs env S1) ∧
  (∀ (fi : DL.Env → Sto → R Src) (asg : Asg) (vs : List Nat) (ft : DL.Env → Sto → R Bool) (fe : DL.Env → Sto → R D) (env : DL.Env) (S : Sto), lComp fi asg vs ft fe env S = (fi env S).bind fun s S1 => if small s.xs.length then fComp asg ft fe s.g (wipeE env vs) s.xs S1 else .bad) ∧
  (∀ (fa : DL.Env → Sto → R D) (env : DL.Env) (S : Sto), iRg1 fa env S = (fa env S).bind fun x S1 => match x with | .int j => if rOk j then .ok ⟨rngL 0 j, Tru⟩ S1 else .bad | _ => .bad) ∧
  (∀ (fa fb : DL.Env → Sto → R D) (env : DL.Env) (S : Sto), iRg2 fa fb env S = (fa env S).bind fun x S1 => (fb env S1).bind fun y S2 => match x, y with | .int i, .int j => if rOk i && rOk j then .ok ⟨rngL i j, Tru⟩ S2 else .bad | _, _ => .bad) ∧
  (∀ (fl : DL.Env → Sto → R (List D)) (env : DL.Env) (S : Sto), iTm fl env S = (fl env S).bind fun xs S1 => .ok ⟨xs, Tru⟩ S1) ∧
  (∀ (fc : DL.Env → Sto → R Bool) (fa fb : DL.Env → Sto → R D) (env : DL.Env) (S : Sto), eIf fc fa fb env S = (fc env S).bind fun b S1 => match b with | true => fa env S1 | false => fb env S1) ∧
  (∀ (fa fb : DL.Env → Sto → R Bool) (env : DL.Env) (S : Sto), bAnd fa fb env S = (fa env S).bind fun b S1 => match b with | true => fb env S1 | false => .ok false S1) ∧
  (∀ (fa fb : DL.Env → Sto → R Bool) (env : DL.Env) (S : Sto), bOr fa fb env S = (fa env S).bind fun b S1 => match b with | true => .ok true S1 | false => fb env S1) ∧
  (∀ (α : Type) (gl : DL.Env → Sto → R LS) (g : LS → Sto → R α) (env : DL.Env) (S : Sto), eB1 gl g env S = (gl env S).bind g) ∧
  (∀ (T : String) (fo : DL.Env → Sto → R D) (fa : DL.Env → Sto → R (List D)) (g : D → List D → Sto → R D) (env : DL.Env) (S : Sto), eBm T fo fa g env S = (fo env S).bind fun x S1 => if tyD T x S1 then (fa env S1).bind fun xs S2 => g x xs S2 else .bad) ∧
  (∀ (fo : DL.Env → Sto → R D) (gl : DL.Env → Sto → R LS) (env : DL.Env) (S : Sto), eJoin fo gl env S = (fo env S).bind fun x S1 => if tyD "str" x S1 then (gl env S1).bind fun l S2 => mJoin x l S2 else .bad) := ⟨fun _ _ _ _ => rfl, fun _ _ => rfl, fun _ _ _ _ _ => rfl, fun _ _ _ => rfl, fun _ _ _ => rfl, fun _ _ _ _ => rfl, fun _ _ _ _ => rfl, fun _ _ _ _ _ => rfl, fun _ _ _ _ => rfl, fun _ _ _ _ _ => rfl, fun _ _ _ _ _ _ _ => rfl, fun _ _ _ => rfl, fun _ _ _ _ => rfl, fun _ _ _ => rfl, fun _ _ _ _ _ => rfl, fun _ _ _ _ => rfl, fun _ _ _ _ => rfl, fun _ _ _ _ _ => rfl, fun _ _ _ _ _ _ => rfl, fun _ _ _ _ => rfl⟩
theorem ev3 :
  (∀ (α : Type) (a : α) (S : Sto) (Q : α → Sto → Prop), (R.ok a S).W Q = Q a S) ∧
  (∀ (α β : Type) (r : R α) (k : α → Sto → R β) (Q : β → Sto → Prop), (r.bind k).W Q = r.W fun a S => (k a S).W Q) ∧
  (∀ (α : Type) (r : R α) (env : DL.Env) (k : α → Sto → RS) (N : DL.Env → Sto → Prop) (T : D → Sto → Prop), (r.seq env k).W N T = r.W fun a S => (k a S).W N T) ∧
  (∀ (r : RS) (k : DL.Env → Sto → RS) (N : DL.Env → Sto → Prop) (T : D → Sto → Prop), (r.bind k).W N T = r.W (fun e S => (k e S).W N T) T) ∧
  (∀ (e : DL.Env) (S : Sto) (N : DL.Env → Sto → Prop) (T : D → Sto → Prop), (RS.nx e S).W N T = N e S) ∧
  (∀ (d : D) (S : Sto) (N : DL.Env → Sto → Prop) (T : D → Sto → Prop), (RS.rt d S).W N T = T d S) := ⟨fun _ _ _ _ => rfl, fun _ _ _ _ _ => R.W_bind, fun _ _ _ _ _ _ => RS.W_seq, fun _ _ _ _ => RS.W_bind, fun _ _ _ _ => rfl, fun _ _ _ _ => rfl⟩
theorem start4 {N : List Str} {args : List D} : startE N args = args.map some ++ List.replicate (N.length - args.length) none := rfl
/-! ### what all laws have: draws, names (printed by gen.py) -/
abbrev n_law_draws : List Str := ["script", "k", "cell"]
noncomputable def b_law_draws : DL.Env → Sto → RS :=
  (sSeq (sSet 2 (eBin dMul (eC (.int 15485863)) (eVar 1)))
  (sSeq (sIf (eTst (eBin (dOrd .Lt) (eVar 1) (eB1 (sRf (eVar 0)) bLen))) (sSet 2 (eBin dMod (eBin dIx (eVar 0) (eVar 1)) (eBin dMul (eBin dPow (eC (.int 10)) (eC (.int 60))) (eBin dPow (eC (.int 10)) (eC (.int 60)))))) (sIf (eTst (eBin dGt (eB1 (sRf (eVar 0)) bLen) (eC (.int 0)))) (sSet 2 (eBin dAdd (eBin dMod (eBin dIx (eVar 0) (eBin dMod (eVar 1) (eB1 (sRf (eVar 0)) bLen))) (eBin dPow (eC (.int 10)) (eC (.int 15)))) (eBin dMul (eC (.int 15485863)) (eVar 1)))) sNx))
  (sRet (eNew (lLst (aCons (eBin dMul (eVar 2) (eB (aCons (eBin (dOrd .GtE) (eVar 2) (eBin dPow (eC (.int 10)) (eC (.int 18)))) aNil) (g1 bInt))) (aCons (eBin dAdd (eC (.int 1)) (eBin dMod (eBin dAdd (eBin dMul (eVar 2) (eC (.int 69621))) (eBin dMul (eC (.int 86028121)) (eBin dAdd (eVar 1) (eC (.int 1))))) (eC (.int 2147483646)))) aNil)))))))
noncomputable def g_law_draws : Fn := gOf n_law_draws b_law_draws
abbrev n_law_draw : List Str := ["draws", "many", "found", "wide"]
noncomputable def b_law_draw : DL.Env → Sto → RS :=
  (sSeq (sIf (eTst (eBin dGt (eBin dIx (eVar 0) (eC (.int 0))) (eC (.int 0)))) (sSeq (sSet 2 (eBin dMod (eBin dIx (eVar 0) (eC (.int 0))) (eVar 1)))
  (sSeq (sPut (eVar 0) (eC (.int 0)) (eBin dDiv (eBin dIx (eVar 0) (eC (.int 0))) (eVar 1)))
  (sRet (eVar 2)))) sNx)
  (sSeq (sSet 2 (eC (.int 0)))
  (sSeq (sSet 3 (eC (.int 1)))
  (sSeq (sWh 12 (eTst (eBin (dOrd .Lt) (eVar 3) (eVar 1))) (sSeq (sPut (eVar 0) (eC (.int 1)) (eBin dMod (eBin dMul (eBin dIx (eVar 0) (eC (.int 1))) (eC (.int 69621))) (eC (.int 2147483647))))
  (sSeq (sSet 2 (eBin dAdd (eBin dMul (eVar 2) (eC (.int 268435456))) (eBin dDiv (eBin dMod (eBin dMul (eBin dIx (eVar 0) (eC (.int 1))) (eBin dAdd (eBin dDiv (eBin dIx (eVar 0) (eC (.int 1))) (eC (.int 128))) (eC (.int 3)))) (eC (.int 2147483629))) (eC (.int 8)))))
  (sSet 3 (eBin dMul (eVar 3) (eC (.int 268435456)))))))
  (sRet (eBin dMod (eVar 2) (eVar 1)))))))
noncomputable def g_law_draw : Fn := gOf n_law_draw b_law_draw
abbrev n_law_names : List Str := ["draws", "many", "letters", "stem", "first", "step", "k"]
noncomputable def b_law_names : DL.Env → Sto → RS :=
  (sSeq (sSet 2 (eC (.str "abcdefghijklmnopqrstuvwxyz")))
  (sSeq (sSet 3 (eJoin (eC (.str "")) (sTm (lComp (iRg1 (lIx (lLst (aCons (eC (.int 0)) (aCons (eC (.int 1)) (aCons (eC (.int 2)) (aCons (eC (.int 7)) aNil))))) (eCall 2 g_law_draw (aCons (eVar 0) (aCons (eC (.int 4)) aNil))))) (aName 6) [6] bT (eBin dIx (eVar 2) (eCall 2 g_law_draw (aCons (eVar 0) (aCons (eC (.int 26)) aNil))))))))
  (sSeq (sSet 4 (eCall 2 g_law_draw (aCons (eVar 0) (aCons (eC (.int 26)) aNil))))
  (sSeq (sSet 5 (lIx (lLst (aCons (eC (.int 1)) (aCons (eC (.int 3)) (aCons (eC (.int 5)) (aCons (eC (.int 7)) aNil))))) (eCall 2 g_law_draw (aCons (eVar 0) (aCons (eC (.int 4)) aNil)))))
  (sRet (eNew (eB1 (sTm (lComp (iRg1 (eVar 1)) (aName 6) [6] bT (eBin dAdd (eVar 3) (eBin dIx (eVar 2) (eBin dMod (eBin dAdd (eVar 4) (eBin dMul (eVar 5) (eVar 6))) (eC (.int 26))))))) bSort)))))))
noncomputable def g_law_names : Fn := gOf n_law_names b_law_names

def Dr (n : Nat) (S : Sto) : Prop := ∃ a b : Int, S[n]? = some (.lst [.int a, .int b]) ∧ 0 ≤ a ∧ 0 ≤ b ∧ b < 2 ^ 31
/-- from S to S' only the draws at n are others, and new things may be there -/
structure Dx (n : Nat) (S S' : Sto) : Prop where
  dr : Dr n S'
  len : S.length ≤ S'.length
  kp : ∀ m, m ≠ n → m < S.length → S'[m]? = S[m]?
theorem Dx.refl {n : Nat} {S : Sto} (h : Dr n S) : Dx n S S := ⟨h, Nat.le_refl _, fun _ _ _ => rfl⟩
theorem Dx.trans {n : Nat} {S S1 S2 : Sto} (h : Dx n S S1) (h' : Dx n S1 S2) : Dx n S S2 := ⟨h'.dr, Nat.le_trans h.len h'.len, fun m h1 h2 => (h'.kp m h1 (Nat.lt_of_lt_of_le h2 h.len)).trans (h.kp m h1 h2)⟩
theorem Dx.at {n m : Nat} {S S' : Sto} {o : O} (h : Dx n S S') (hm : m ≠ n) (e : S[m]? = some o) : S'[m]? = some o := (h.kp m hm (List.getElem?_eq_some_iff.mp e).1).trans e
theorem Dr.lt {n : Nat} {S : Sto} (h : Dr n S) : n < S.length := by
  obtain ⟨a, b, h, _⟩ := h
  exact (List.getElem?_eq_some_iff.mp h).1
theorem Dr.snoc {n : Nat} {S : Sto} (h : Dr n S) (o : O) : Dr n (S ++ [o]) := by
  have hl := h.lt
  obtain ⟨a, b, h, r⟩ := h
  exact ⟨a, b, by rw [List.getElem?_append_left hl]; exact h, r⟩
theorem Dx.snoc {n : Nat} {S : Sto} (h : Dr n S) (o : O) : Dx n S (S ++ [o]) := ⟨h.snoc o, by simp, fun m _ hm => List.getElem?_append_left hm⟩
theorem Dx.set {n : Nat} {S : Sto} (h : Dr n S) {m : Nat} (o : O) : m ≠ n → Dr n (S.set m o) := fun hm => by
  obtain ⟨a, b, h, r⟩ := h
  exact ⟨a, b, by rw [List.getElem?_set_ne hm]; exact h, r⟩
/-- the draws are written -/
theorem Dx.put {n : Nat} {S : Sto} (h : Dr n S) {a b : Int} (ha : 0 ≤ a) (hb : 0 ≤ b) (hb' : b < 2 ^ 31) : Dx n S (S.set n (.lst [.int a, .int b])) :=
  ⟨⟨a, b, by rw [List.getElem?_set_self h.lt], ha, hb, hb'⟩, by simp, fun m hm _ => List.getElem?_set_ne (Ne.symm hm)⟩
theorem ix2_0 {S : Sto} {n : Nat} {x y : D} (h : S[n]? = some (.lst [x, y])) : dIx (.ref n) (.int 0) S = .ok x S := by simp [dIx, h, L2.atI, ixN, R.ofO]
theorem ix2_1 {S : Sto} {n : Nat} {x y : D} (h : S[n]? = some (.lst [x, y])) : dIx (.ref n) (.int 1) S = .ok y S := by simp [dIx, h, L2.atI, ixN, R.ofO]
theorem put2_0 {S : Sto} {n : Nat} {x y z : D} (h : S[n]? = some (.lst [x, y])) : putIt (.ref n) (.int 0) z S = some (S.set n (.lst [z, y])) := by simp [putIt, h, ixN]
theorem put2_1 {S : Sto} {n : Nat} {x y z : D} (h : S[n]? = some (.lst [x, y])) : putIt (.ref n) (.int 1) z S = some (S.set n (.lst [x, z])) := by simp [putIt, h, ixN]
theorem gt_ok {i j : Int} {S : Sto} : dGt (.int i) (.int j) S = .ok (.bl (decide (j < i))) S := rfl
theorem add_ok {i j : Int} {S : Sto} : dAdd (.int i) (.int j) S = .ok (.int (i + j)) S := rfl
theorem sub_ok {i j : Int} {S : Sto} : dSub (.int i) (.int j) S = .ok (.int (i - j)) S := rfl
theorem draw_ok {n : Nat} {S : Sto} {many : Int} (h : Dr n S) (h0 : 0 < many) (h1 : many ≤ 2 ^ 62) : (g_law_draw [.ref n, .int many] S).W fun d S' => ∃ v : Int, d = .int v ∧ 0 ≤ v ∧ v < many ∧ S'.length = S.length ∧ Dx n S S' := by
  have hb62 : many.natAbs < 2 ^ 63 := by omega
  have hmany : many.natAbs < 2 ^ 8000 := Nat.lt_of_lt_of_le hb62 (Nat.pow_le_pow_right (by decide) (by decide))
  obtain ⟨a, b, hS, ha, hb, hb'⟩ := id h
  unfold g_law_draw gOf
  rw [R.W_ret]
  show (b_law_draw [some (.ref n), some (.int many), none, none] S).W _ _
  simp only [b_law_draw, ev1, ev2, ev3, List.getElem?_cons_zero, List.getElem?_cons_succ, ix2_0 hS, gt_ok]
  by_cases hp : 0 < a
  · simp only [hp, decide_true, ev1, ev2, ev3, List.getElem?_cons_zero, List.getElem?_cons_succ, List.set_cons_succ, List.set_cons_zero, ix2_0 hS, mod_ok h0, div_ok h0 hmany, put2_0 hS]
    exact ⟨a % many, rfl, Int.emod_nonneg _ (by omega), Int.emod_lt_of_pos _ h0, by simp, Dx.put h (Int.ediv_nonneg ha (by omega)) hb hb'⟩
  · simp only [hp, decide_false, ev3, List.set_cons_succ, List.set_cons_zero]
    unfold sWh
    refine W_wh (fun m env S' => ∃ (f w b' : Int) (k : Nat), env = [some (.ref n), some (.int many), some (.int f), some (.int w)] ∧ w = 2 ^ (28 * k) ∧ 0 ≤ f ∧ f < w ∧ k + m = 3 ∧ S' = S.set n (.lst [.int a, .int b']) ∧ 0 ≤ b' ∧ b' < 2 ^ 31) ?_ 12 3 _ _ (by decide) ⟨0, 1, b, 0, rfl, by decide, Int.le_refl _, by decide, rfl, ?_, hb, hb'⟩
    · rintro m env S' ⟨f, w, b', k, rfl, hw, hf, hfw, hk, rfl, hb0, hb1⟩
      have hS' : (S.set n (.lst [.int a, .int b']))[n]? = some (.lst [.int a, .int b']) := List.getElem?_set_self h.lt
      simp only [ev1, ev2, ev3, List.getElem?_cons_zero, List.getElem?_cons_succ, lt_ok]
      by_cases hwm : w < many
      · have hm0 : 0 < m := by
          rcases Nat.eq_zero_or_pos m with q | q
          · subst q
            have : k = 3 := by omega
            subst this
            omega
          · exact q
        have hw62 : w < 2 ^ 62 := by omega
        simp only [hwm, decide_true, if_true]
        refine ⟨hm0, ?_⟩
        have hx1 : ∀ Z, dMul (.int b') (.int 69621) Z = .ok (.int (b' * 69621)) Z := fun Z => mul_ok (a := 31) (b := 17) (by decide) (by decide) (by omega) (by decide) (by decide)
        obtain ⟨b2, hb2⟩ : ∃ b2, b2 = b' * 69621 % 2147483647 := ⟨_, rfl⟩
        have hb20 : 0 ≤ b2 := by omega
        have hb21 : b2 < 2147483647 := by omega
        have hS2 : (S.set n (.lst [.int a, .int b2]))[n]? = some (.lst [.int a, .int b2]) := List.getElem?_set_self h.lt
        have hx2 : ∀ Z, dMul (.int f) (.int 268435456) Z = .ok (.int (f * 268435456)) Z := fun Z => mul_ok (a := 62) (b := 29) (by decide) (by decide) (by omega) (by decide) (by decide)
        have hx3 : ∀ Z, dMul (.int b2) (.int (b2 / 128 + 3)) Z = .ok (.int (b2 * (b2 / 128 + 3))) Z := fun Z => mul_ok (a := 31) (b := 31) (by decide) (by decide) (by omega) (by omega) (by decide)
        have hx4 : ∀ Z, dMul (.int w) (.int 268435456) Z = .ok (.int (w * 268435456)) Z := fun Z => mul_ok (a := 62) (b := 29) (by decide) (by decide) (by omega) (by decide) (by decide)
        have hd8 : ∀ (z : Int) Z, dDiv (.int z) (.int 8) Z = .ok (.int (z / 8)) Z := fun z Z => div_ok (by decide) (Nat.lt_of_lt_of_le (by decide : (8 : Int).natAbs < 2 ^ 4) (Nat.pow_le_pow_right (by decide) (by decide)))
        have hd128 : ∀ (z : Int) Z, dDiv (.int z) (.int 128) Z = .ok (.int (z / 128)) Z := fun z Z => div_ok (by decide) (Nat.lt_of_lt_of_le (by decide : (128 : Int).natAbs < 2 ^ 8) (Nat.pow_le_pow_right (by decide) (by decide)))
        have hm1 : ∀ (z : Int) Z, dMod (.int z) (.int 2147483647) Z = .ok (.int (z % 2147483647)) Z := fun z Z => mod_ok (by decide)
        have hm2 : ∀ (z : Int) Z, dMod (.int z) (.int 2147483629) Z = .ok (.int (z % 2147483629)) Z := fun z Z => mod_ok (by decide)
        simp only [ev1, ev2, ev3, List.getElem?_cons_zero, List.getElem?_cons_succ, List.set_cons_succ, List.set_cons_zero, ix2_1 hS', hx1, hm1, ← hb2, put2_1 hS', List.set_set, ix2_1 hS2, hx2, hx3, hx4, hd8, hd128, hm2, add_ok]
        have hpc : 0 ≤ b2 * (b2 / 128 + 3) % 2147483629 / 8 ∧ b2 * (b2 / 128 + 3) % 2147483629 / 8 < 268435456 := by
          have h1 := Int.emod_nonneg (b2 * (b2 / 128 + 3)) (by decide : (2147483629 : Int) ≠ 0)
          have h2 := Int.emod_lt_of_pos (b2 * (b2 / 128 + 3)) (by decide : (0 : Int) < 2147483629)
          omega
        refine ⟨_, _, b2, k + 1, rfl, ?_, by omega, by omega, by omega, rfl, hb20, by omega⟩
        rw [hw, Nat.mul_add, Int.pow_add]
        rfl
      · simp only [hwm, decide_false, Bool.false_eq_true, if_false]
        simp only [List.getElem?_cons_zero, List.getElem?_cons_succ, ev3, mod_ok h0]
        exact ⟨f % many, rfl, Int.emod_nonneg _ (by omega), Int.emod_lt_of_pos _ h0, by simp, Dx.put h ha hb0 hb1⟩
    · obtain ⟨hl, e⟩ := List.getElem?_eq_some_iff.mp hS
      rw [← e, List.set_getElem_self]
end DL

set_option exponentiation.threshold 10000
namespace DL
open PySem PySem.Spec PyProof.Rows L2

theorem pow_ok {i : Int} {j : Nat} {S : Sto} (hj : j ≤ 1000000) (hi : i.natAbs < 2 ^ 64) : dPow (.int i) (.int j) S = .ok (.int (i ^ j)) S := by
  show (if 0 ≤ (j : Int) ∧ (j : Int) ≤ 1000000 ∧ i.natAbs < 2 ^ 64 then R.ok (D.int (i ^ (j : Int).toNat)) S else .bad) = _
  rw [if_pos ⟨by omega, by omega, hi⟩]
  rfl
theorem len_scr {ns : List Int} {S : Sto} : bLen (.rf (.scr ns)) S = .ok (.int ns.length) S := by simp [bLen, getA, R.bind]
theorem sml {n : Nat} (h : n ≤ 1000000) : small n = true := decide_eq_true (Nat.le_trans h (by rw [sizeLine_eq]; decide))
theorem atI_nat' {α : Type} {xs : List α} {k : Nat} (h : k < xs.length) : L2.atI xs (k : Int) = some xs[k] := by
  have : ixN xs.length (k : Int) = some k := by
    unfold ixN
    rw [if_pos (by omega), if_pos (by omega)]
    simp
  unfold L2.atI
  rw [this]
  exact List.getElem?_eq_getElem h
theorem ix_scr {ns : List Int} {k : Nat} {S : Sto} (h : k < ns.length) : dIx (.scr ns) (.int k) S = .ok (.int ns[k]) S := by
  show R.ofO ((L2.atI ns k).map D.int) S = _
  rw [atI_nat' h]
  rfl
theorem draws_ok {ns : List Int} {k : Nat} {S : Sto} (hk : k ≤ 63) (h : k < ns.length ∨ ns.length = 0) : (g_law_draws [.scr ns, .int k] S).W fun d S' => ∃ a b : Int, d = .ref S.length ∧ S' = S ++ [.lst [.int a, .int b]] ∧ 0 ≤ a ∧ 0 ≤ b ∧ b < 2 ^ 31 := by
  unfold g_law_draws gOf
  rw [R.W_ret]
  show (b_law_draws [some (.scr ns), some (.int k), none] S).W _ _
  have hp : ∀ Z : Sto, dPow (.int 10) (.int 60) Z = .ok (.int (10 ^ 60)) Z := fun Z => pow_ok (j := 60) (by decide) (by decide)
  have hp18 : ∀ Z : Sto, dPow (.int 10) (.int 18) Z = .ok (.int (10 ^ 18)) Z := fun Z => pow_ok (j := 18) (by decide) (by decide)
  have hm0 : ∀ Z : Sto, dMul (.int 15485863) (.int (k : Int)) Z = .ok (.int (15485863 * (k : Int))) Z := fun Z => mul_ok (a := 24) (b := 7) (by decide) (by decide) (by decide) (by omega) (by decide)
  have hm1 : ∀ Z : Sto, dMul (.int (10 ^ 60 : Int)) (.int (10 ^ 60 : Int)) Z = .ok (.int (10 ^ 60 * 10 ^ 60 : Int)) Z := fun Z => mul_ok (a := 200) (b := 200) (by decide) (by decide) (by decide) (by decide) (by decide)
  have fin : ∃ cell : Int, 0 ≤ cell ∧ cell < 10 ^ 120 ∧ ((k < ns.length → ∃ h : k < ns.length, cell = ns[k] % (10 ^ 60 * 10 ^ 60)) ∧ (¬ k < ns.length → cell = 15485863 * k)) := by
    by_cases hlt : k < ns.length
    · have h1 := Int.emod_nonneg ns[k] (by decide : (10 ^ 60 * 10 ^ 60 : Int) ≠ 0)
      have h2 := Int.emod_lt_of_pos ns[k] (by decide : (0 : Int) < 10 ^ 60 * 10 ^ 60)
      exact ⟨_, h1, Int.lt_of_lt_of_le h2 (by decide), fun _ => ⟨hlt, rfl⟩, fun z => absurd hlt z⟩
    · exact ⟨15485863 * k, by omega, Int.lt_of_le_of_lt (by omega : 15485863 * (k : Int) ≤ 15485863 * 63) (by decide), fun z => absurd z hlt, fun _ => rfl⟩
  obtain ⟨cell, hc0, hc1, hcA, hcB⟩ := fin
  have h120 : cell.natAbs < 2 ^ 400 := by
    have : (10 : Int) ^ 120 ≤ 2 ^ 400 := by decide
    omega
  have hx1 : ∀ (c : Bool) Z, dMul (.int cell) (.int (if c = true then 1 else 0)) Z = .ok (.int (cell * (if c = true then 1 else 0))) Z := fun c Z => mul_ok (a := 400) (b := 2) (by decide) (by decide) h120 (by cases c <;> decide) (by decide)
  have hx2 : ∀ Z, dMul (.int cell) (.int 69621) Z = .ok (.int (cell * 69621)) Z := fun Z => mul_ok (a := 400) (b := 20) (by decide) (by decide) h120 (by decide) (by decide)
  have hx3 : ∀ Z, dMul (.int 86028121) (.int ((k : Int) + 1)) Z = .ok (.int (86028121 * ((k : Int) + 1))) Z := fun Z => mul_ok (a := 30) (b := 20) (by decide) (by decide) (by decide) (by omega) (by decide)
  have hx4 : ∀ (z : Int) Z, dMod (.int z) (.int 2147483646) Z = .ok (.int (z % 2147483646)) Z := fun z Z => mod_ok (by decide)
  have h2 := Int.emod_nonneg (cell * 69621 + 86028121 * ((k : Int) + 1)) (by decide : (2147483646 : Int) ≠ 0)
  have h3 := Int.emod_lt_of_pos (cell * 69621 + 86028121 * ((k : Int) + 1)) (by decide : (0 : Int) < 2147483646)
  have goal : ∃ a b : Int, True ∧ S ++ [.lst [.int (cell * (if decide (10 ^ 18 ≤ cell) = true then 1 else 0)), .int (1 + (cell * 69621 + 86028121 * ((k : Int) + 1)) % 2147483646)]] = S ++ [O.lst [.int a, .int b]] ∧ 0 ≤ a ∧ 0 ≤ b ∧ b < 2 ^ 31 := by
    refine ⟨_, _, trivial, rfl, ?_, by omega, by omega⟩
    split <;> omega
  by_cases hlt : k < ns.length
  · obtain ⟨_, hcell⟩ := hcA hlt
    have hmA : ∀ Z, dMod (.int ns[k]) (.int (10 ^ 60 * 10 ^ 60)) Z = .ok (.int cell) Z := fun Z => by rw [mod_ok (by decide), hcell]
    have e1 : decide ((k : Int) < (ns.length : Int)) = true := decide_eq_true (by omega)
    simp only [b_law_draws, ev1, ev2, ev3, List.getElem?_cons_zero, List.getElem?_cons_succ, List.set_cons_succ, List.set_cons_zero, hm0, len_scr, lt_ok, e1, ix_scr hlt, hp, hm1, hmA, hp18, ge_ok, bInt, hx1, add_ok, hx2, hx3, hx4, List.length_cons, List.length_nil, sml (by decide : 0 + 1 + 1 ≤ 1000000), if_true]
    exact goal
  · have hcell := hcB hlt
    have hm0' : ∀ Z, dMul (.int 15485863) (.int k) Z = .ok (.int cell) Z := fun Z => by rw [hm0, hcell]
    have e1 : decide ((k : Int) < (ns.length : Int)) = false := decide_eq_false (by omega)
    have e2 : decide ((0 : Int) < (ns.length : Int)) = false := decide_eq_false (by omega)
    simp only [b_law_draws, ev1, ev2, ev3, List.getElem?_cons_zero, List.getElem?_cons_succ, List.set_cons_succ, List.set_cons_zero, hm0', len_scr, lt_ok, gt_ok, e1, e2, hp18, ge_ok, bInt, hx1, add_ok, hx2, hx3, hx4, List.length_cons, List.length_nil, sml (by decide : 0 + 1 + 1 ≤ 1000000), if_true]
    exact goal
end DL

namespace DL
open PySem PySem.Spec PyProof.Rows L2

/-! ### names -/
abbrev abc : Str := "abcdefghijklmnopqrstuvwxyz"
theorem abc_cps : abc.cps.toList = List.map (fun i => 97 + i) (List.range 26) := by decide +kernel
theorem abc_len : abc.length = 26 := by decide +kernel
theorem abc_ix {v : Int} {S : Sto} (h0 : 0 ≤ v) (h1 : v < 26) : dIx (.str abc) (.int v) S = .ok (.str ⟨#[97 + v.toNat]⟩) S := by
  obtain ⟨k, rfl⟩ := Int.eq_ofNat_of_zero_le h0
  have hk : k < 26 := by omega
  have hl : k < abc.cps.toList.length := by rw [abc_cps]; simpa using hk
  show (if abc.length ≤ sizeLine then R.ofO ((L2.atI abc.cps.toList (k : Int)).map fun c => D.str ⟨#[c]⟩) S else .bad) = _
  rw [if_pos (by rw [abc_len, sizeLine_eq]; decide), atI_nat' hl]
  have : abc.cps.toList[k] = 97 + k := by simp only [abc_cps]; simp
  rw [this]
  rfl
def nmOk (x : Str) : Prop := 1 ≤ x.cps.toList.length ∧ x.cps.toList.length ≤ 8 ∧ ∀ c ∈ x.cps.toList, 97 ≤ c ∧ c ≤ 122
theorem nmOk.ok {x : Str} (h : nmOk x) : PyData.strOk x = true := by
  unfold PyData.strOk
  rw [← Array.all_toList, List.all_eq_true]
  intro c hc
  have := (h.2.2 c hc).2
  simp; omega
theorem nmOk.len {x : Str} (h : nmOk x) : x.length ≤ 8 := by
  have := h.2.1
  simpa [PySem.Str.length] using this
theorem str_len (x : Str) : x.length = x.cps.toList.length := by simp [PySem.Str.length]
theorem str_app (x y : Str) : (x ++ y).cps.toList = x.cps.toList ++ y.cps.toList := by
  show (x.cps ++ y.cps).toList = _
  simp
theorem emp_cps : ("" : Str).cps.toList = [] := by decide +kernel
theorem join0 (ys : List Str) : (Txt.join ("" : Str) ys).cps.toList = (ys.map fun y => y.cps.toList).flatten := by
  show ((ys.drop 1).foldl (fun acc p => acc ++ ("" : Str).cps ++ p.cps) (ys.headD PySem.Str.empty).cps).toList = _
  have go : ∀ (l : List Str) (a : Array Nat), (l.foldl (fun acc p => acc ++ ("" : Str).cps ++ p.cps) a).toList = a.toList ++ (l.map fun y => y.cps.toList).flatten := by
    intro l
    induction l with
    | nil => intro a; simp
    | cons y l ih =>
      intro a
      rw [List.foldl_cons, ih]
      simp only [Array.toList_append, emp_cps, List.map_cons, List.flatten_cons, List.append_nil, List.append_assoc]
  rw [go]
  cases ys with
  | nil => rfl
  | cons y l => simp
theorem flat_one : ∀ l : List Nat, (l.map fun x => [x]).flatten = l
  | [] => rfl
  | a :: l => by simp [flat_one l]
/-- sorted(xs) of texts -/
def sLe (a b : Str) : Bool := decide (a.cps.toList ≤ b.cps.toList)
theorem sLe_total (x y : Str) : (sLe x y || sLe y x) = true := by
  simp only [sLe, Bool.or_eq_true, decide_eq_true_eq]
  exact List.le_total _ _
theorem sLe_trans (x y z : Str) (h1 : sLe x y = true) (h2 : sLe y z = true) : sLe x z = true := by
  simp only [sLe, decide_eq_true_eq] at *
  exact List.le_trans h1 h2
theorem keyD_s (S : Sto) (x : Str) : keyD S (.str x) = .str x := rfl
theorem bSort_s {S : Sto} {ts : List Str} (l : LS) (hl : getB l S = .ok (ts.map .str) S) (hz : ts.length ≤ sizeLine) : bSort l S = .ok ((ts.mergeSort sLe).map .str) S := by
  unfold bSort
  rw [hl]
  have km : (ts.map D.str).map (keyD S) = ts.map PyData.str := by rw [List.map_map]; exact List.map_congr_left fun t _ => rfl
  have le : ∀ a b : Str, PySem.W.dataLe false (keyD S) (.str a) (.str b) = sLe a b := fun a b => by
    have := congrFun (congrFun (PySem.W.dataLe_str (fun b : Str => b)) a) b
    exact this
  refine (if_pos ?_).trans ?_
  rotate_left
  · congr 1
    exact (List.map_mergeSort fun a ha b hb => (le a b).symm).symm
  · refine ⟨fun x hx => ?_, ?_, ?_, ?_, fun x hx => ?_⟩
    · obtain ⟨t, ht, rfl⟩ := List.mem_map.mp hx
      rfl
    · rw [km]
      intro d hd d' hd'
      obtain ⟨t, ht, rfl⟩ := List.mem_map.mp hd
      obtain ⟨t', ht', rfl⟩ := List.mem_map.mp hd'
      rfl
    · rw [km]
      refine .inr fun d hd => ?_
      obtain ⟨t, ht, rfl⟩ := List.mem_map.mp hd
      exact ⟨by simp, by simp⟩
    · simpa [small] using hz
    · obtain ⟨t, ht, rfl⟩ := List.mem_map.mp hx
      simp [keyD_s, PyData.depth]
def rgK (n : Nat) : List D := (List.range n).map fun i => .int (i : Nat)
theorem rngL_nat (n : Nat) : rngL 0 (n : Int) = rgK n := by
  unfold rngL rgK
  have : ((n : Int) - 0).toNat = n := by omega
  rw [this]
  exact List.map_congr_left fun i _ => by rw [Int.zero_add]
theorem rgK_get {n i : Nat} {x : D} (h : (rgK n)[i]? = some x) : i < n ∧ x = .int (i : Nat) := by
  unfold rgK at h
  rw [List.getElem?_map] at h
  by_cases hi : i < n
  · rw [List.getElem?_range hi] at h
    cases h
    exact ⟨hi, rfl⟩
  · rw [List.getElem?_eq_none (by simp; omega)] at h
    cases h
theorem rgK_len (n : Nat) : (rgK n).length = n := by simp [rgK]
theorem rOk_nat {n : Nat} (h : n ≤ 1000000) : rOk (n : Int) = true := by
  unfold rOk
  exact decide_eq_true (by constructor <;> omega)
/-- the names' letters -/
def nmAt (stem : Str) (first step : Int) (k : Nat) : Str := stem ++ ⟨#[97 + ((first + step * k) % 26).toNat]⟩
theorem atI4 {a b c d : Int} {v : Int} {S : Sto} (h0 : 0 ≤ v) (h1 : v < 4) : ∃ w : Int, R.ofO (L2.atI [D.int a, D.int b, D.int c, D.int d] v) S = .ok (.int w) S ∧ w ∈ [a, b, c, d] := by
  obtain ⟨k, rfl⟩ := Int.eq_ofNat_of_zero_le h0
  have : k = 0 ∨ k = 1 ∨ k = 2 ∨ k = 3 := by omega
  rcases this with rfl | rfl | rfl | rfl
  · exact ⟨a, rfl, by simp⟩
  · exact ⟨b, rfl, by simp⟩
  · exact ⟨c, rfl, by simp⟩
  · exact ⟨d, rfl, by simp⟩
theorem names_ok2 {n : Nat} {S : Sto} {many : Nat} (h : Dr n S) (hm : many ≤ 26) : (g_law_names [.ref n, .int many] S).W fun d S' => ∃ (xs : List Str) (S1 : Sto), d = .ref S.length ∧ S' = S1 ++ [.lst (xs.map .str)] ∧ S1.length = S.length ∧ Dx n S S1 ∧ xs.length = many ∧ (∀ x ∈ xs, nmOk x) ∧ xs.Nodup ∧ ∀ x ∈ xs, x.cps.toList.length ≠ 4 := by
  unfold g_law_names gOf
  rw [R.W_ret]
  show (b_law_names [some (.ref n), some (.int many), none, none, none, none, none] S).W _ _
  simp only [b_law_names, ev1, ev2, ev3, List.getElem?_cons_zero, List.getElem?_cons_succ, List.set_cons_succ, List.set_cons_zero, List.length_cons, List.length_nil, if_true, tyD, beq_self_eq_true, sml (by decide : 0 + 1 + 1 + 1 + 1 ≤ 1000000), rOk_nat (by omega : many ≤ 1000000), rngL_nat, rgK_len, sml (by omega : many ≤ 1000000)]
  refine (draw_ok h (by decide) (by decide)).mono ?_
  rintro _ S1 ⟨v1, rfl, h10, h11, hl1, x1⟩
  obtain ⟨w1, e1, hw1⟩ := atI4 (a := 0) (b := 1) (c := 2) (d := 7) (S := S1) h10 h11
  obtain ⟨q, rfl, hq, hq3⟩ : ∃ q : Nat, w1 = (q : Int) ∧ q ≤ 7 ∧ q ≠ 3 := by
    refine ⟨w1.toNat, ?_, ?_, ?_⟩ <;> simp at hw1 <;> omega
  simp only [e1, ev3, rOk_nat (by omega : q ≤ 1000000), if_true, rngL_nat, rgK_len, sml (by omega : q ≤ 1000000)]
  -- the stem
  refine W_comp (fun i acc S' => ∃ cs : List Nat, acc = cs.map (fun c => D.str ⟨#[c]⟩) ∧ cs.length = i ∧ (∀ c ∈ cs, 97 ≤ c ∧ c ≤ 122) ∧ S'.length = S.length ∧ Dx n S S') (rgK q) (fun _ _ _ _ => trivial) ?_ ?_ ⟨[], rfl, rfl, by simp, hl1, x1⟩
  · rintro i x acc S2 hx ⟨cs, rfl, hcl, hcs, hl2, x2⟩
    refine ⟨_, rfl, ?_⟩
    simp only [bT, ev1, ev2, ev3, wipeE, aName, if_true, List.set_cons_succ, List.set_cons_zero, List.getElem?_cons_zero, List.getElem?_cons_succ, List.length_cons, List.length_nil]
    refine (draw_ok x2.dr (by decide) (by decide)).mono ?_
    rintro _ S3 ⟨v3, rfl, h30, h31, hl3, x3⟩
    rw [abc_ix h30 h31]
    refine ⟨cs ++ [97 + v3.toNat], by simp, by simp [hcl], fun c hc => ?_, by omega, x2.trans x3⟩
    rcases List.mem_append.mp hc with hc | hc
    · exact hcs c hc
    · simp at hc; omega
  · rintro acc S2 ⟨cs, rfl, hcl, hcs, hl2, x2⟩
    rw [rgK_len] at hcl
    have hst : ∃ stem : Str, Txt.join ("" : Str) (cs.map fun c => (⟨#[c]⟩ : Str)) = stem ∧ stem.cps.toList = cs := ⟨_, rfl, by rw [join0, List.map_map]; exact flat_one cs⟩
    obtain ⟨stem, hst, hsc⟩ := hst
    have hj : mJoin (.str ("" : Str)) (.tm (cs.map fun c => D.str ⟨#[c]⟩)) S2 = .ok (.str stem) S2 := by
      have hso : strsOf (cs.map fun c => D.str ⟨#[c]⟩) = some (cs.map fun c => (⟨#[c]⟩ : Str)) := by
        have := strsOf_map (cs.map fun c => (⟨#[c]⟩ : Str))
        rwa [List.map_map] at this
      simp only [mJoin, getA, R.bind, hso, R.ofO, hst]
      rw [if_pos]
      have : ((cs.map fun c => (⟨#[c]⟩ : Str)).map (·.length)).sum = cs.length := by
        rw [List.map_map]
        have : (PySem.Str.length ∘ fun c => (⟨#[c]⟩ : Str)) = fun _ => 1 := rfl
        rw [this]
        simp [List.map_const']
      rw [this]
      have e0 : ("" : Str).length = 0 := by decide +kernel
      simp only [List.length_map, e0]
      omega
    rw [hj]
    simp only [ev3]
    refine (draw_ok x2.dr (by decide) (by decide)).mono ?_
    rintro _ S3 ⟨v3, rfl, h30, h31, hl3, x3⟩
    refine (draw_ok x3.dr (by decide) (by decide)).mono ?_
    rintro _ S4 ⟨v4, rfl, h40, h41, hl4, x4⟩
    obtain ⟨w4, e4, hw4⟩ := atI4 (a := 1) (b := 3) (c := 5) (d := 7) (S := S4) h40 h41
    have hw40 : 0 ≤ w4 ∧ w4 ≤ 7 := by simp at hw4; omega
    simp only [e4, ev3]
    have hc : fComp (aName 6) bT (eBin dAdd (eVar 3) (eBin dIx (eVar 2) (eBin dMod (eBin dAdd (eVar 4) (eBin dMul (eVar 5) (eVar 6))) (eC (.int 26))))) Tru (wipeE [some (.ref n), some (.int many), some (.str abc), some (.str stem), some (.int v3), some (.int w4), none] [6]) (rgK many) S4 = .ok (((List.range many).filter fun _ => true).map fun k => .str (nmAt stem v3 w4 k)) S4 := by
      refine comp_pure (g := Tru) trivial (fun i : Nat => D.int (i : Nat)) (fun _ => true) (fun k => .str (nmAt stem v3 w4 k)) (List.range many) fun k hk => ⟨_, rfl, rfl, fun _ => ?_⟩
      have hk' : k < many := by simpa using hk
      have hx : ∀ Z, dMul (.int w4) (.int (k : Nat)) Z = .ok (.int (w4 * (k : Nat))) Z := fun Z => mul_ok (a := 10) (b := 10) (by decide) (by decide) (by omega) (by omega) (by decide)
      have hmod : ∀ Z, dMod (.int (v3 + w4 * (k : Nat))) (.int 26) Z = .ok (.int ((v3 + w4 * (k : Nat)) % 26)) Z := fun Z => mod_ok (by decide)
      have r0 := Int.emod_nonneg (v3 + w4 * (k : Nat)) (by decide : (26 : Int) ≠ 0)
      have r1 := Int.emod_lt_of_pos (v3 + w4 * (k : Nat)) (by decide : (0 : Int) < 26)
      have hl : stem.length ≤ 7 := by rw [str_len, hsc, hcl]; omega
      show (eBin _ _ _ _ _) = _
      simp only [ev1, wipeE, aName, List.set_cons_succ, List.set_cons_zero, List.getElem?_cons_zero, List.getElem?_cons_succ, R.bind, hx, add_ok, hmod, abc_ix r0 r1, dAdd, nmAt]
      rw [if_pos]
      have : (⟨#[97 + ((v3 + w4 * (k : Nat)) % 26).toNat]⟩ : Str).length = 1 := rfl
      rw [this, sizeLine_eq]
      omega
    rw [hc]
    have hf : ((List.range many).filter fun _ => true) = List.range many := List.filter_eq_self.mpr fun _ _ => rfl
    rw [hf]
    have hb : bSort (.tm ((List.range many).map fun k => D.str (nmAt stem v3 w4 k))) S4 = .ok ((((List.range many).map fun k => nmAt stem v3 w4 k).mergeSort sLe).map .str) S4 := by
      refine bSort_s (ts := (List.range many).map fun k => nmAt stem v3 w4 k) _ ?_ (by simp [sizeLine_eq]; omega)
      show R.ok _ _ = _
      rw [List.map_map]
      rfl
    simp only [ev3, hb]
    refine ⟨_, S4, ?_, rfl, by omega, ((x2.trans x3).trans x4), by simp, fun x hx => ?_, ?_, fun x hx => ?_⟩
    · congr 1
      omega
    · have := (List.mergeSort_perm _ _).mem_iff.mp hx
      obtain ⟨k, hk, rfl⟩ := List.mem_map.mp this
      have r1 := Int.emod_lt_of_pos (v3 + w4 * (k : Nat)) (by decide : (0 : Int) < 26)
      have r0 := Int.emod_nonneg (v3 + w4 * (k : Nat)) (by decide : (26 : Int) ≠ 0)
      have e : (nmAt stem v3 w4 k).cps.toList = cs ++ [97 + ((v3 + w4 * (k : Nat)) % 26).toNat] := by
        unfold nmAt
        rw [str_app, hsc]
      refine ⟨by rw [e]; simp, by rw [e]; simp; omega, fun c hc => ?_⟩
      rw [e] at hc
      rcases List.mem_append.mp hc with hc | hc
      · exact hcs c hc
      · simp at hc; omega
    · refine (List.mergeSort_perm _ _).nodup_iff.mpr ?_
      rw [List.nodup_iff_pairwise_ne, List.pairwise_map]
      refine List.Pairwise.imp_of_mem (fun {a b} ha hb lt e => ?_) (List.nodup_iff_pairwise_ne.mp (List.nodup_range (n := many)))
      have ha := List.mem_range.mp ha
      have hb := List.mem_range.mp hb
      have e2 := congrArg (fun x : Str => x.cps.toList) e
      simp only [nmAt, str_app, hsc] at e2
      have e3 := List.append_cancel_left e2
      simp only [List.cons.injEq, and_true] at e3
      have ra := Int.emod_nonneg (v3 + w4 * (a : Nat)) (by decide : (26 : Int) ≠ 0)
      have rb := Int.emod_nonneg (v3 + w4 * (b : Nat)) (by decide : (26 : Int) ≠ 0)
      have e4 : (v3 + w4 * (a : Nat)) % 26 = (v3 + w4 * (b : Nat)) % 26 := by omega
      simp at hw4
      rcases hw4 with rfl | rfl | rfl | rfl <;> omega
    · have := (List.mergeSort_perm _ _).mem_iff.mp hx
      obtain ⟨k, hk, rfl⟩ := List.mem_map.mp this
      have e : (nmAt stem v3 w4 k).cps.toList = cs ++ [97 + ((v3 + w4 * (k : Nat)) % 26).toNat] := by
        unfold nmAt
        rw [str_app, hsc]
      rw [e]
      simp
      omega
theorem names_ok {n : Nat} {S : Sto} {many : Nat} (h : Dr n S) (hm : many ≤ 26) : (g_law_names [.ref n, .int many] S).W fun d S' => ∃ (xs : List Str) (S1 : Sto), d = .ref S.length ∧ S' = S1 ++ [.lst (xs.map .str)] ∧ S1.length = S.length ∧ Dx n S S1 ∧ xs.length = many ∧ (∀ x ∈ xs, nmOk x) := by
  refine (names_ok2 h hm).mono ?_
  rintro d S' ⟨xs, S1, h1, h2, h3, h4, h5, h6, _⟩
  exact ⟨xs, S1, h1, h2, h3, h4, h5, h6⟩
end DL

namespace DL
open PySem PySem.Spec PyProof.Rows L2

theorem ev4 :
  (∀ (C : Addr) (f : Str) (fo : DL.Env → Sto → R D) (env : DL.Env) (S : Sto), eFld C f fo env S = (fo env S).bind fun o S1 => R.ofO (getF' C f o S1) S1) ∧
  (∀ (C : Addr) (f : Str) (fo fv : DL.Env → Sto → R D) (env : DL.Env) (S : Sto), sFldS C f fo fv env S = (fv env S).seq env fun v S1 => (fo env S1).seq env fun o S2 => match putF' C f o v S2 with | some S3 => .nx env S3 | none => .bad) ∧
  (∀ (C : Addr) (m : Str) (n : Nat) (g : Fn) (fo : DL.Env → Sto → R D) (fa : DL.Env → Sto → R (List D)) (env : DL.Env) (S : Sto), eMeth C m n g fo fa env S = (fo env S).bind fun o S1 => match o with
    | .ref i => (match S1[i]? with
      | some (.ins C' fs) => if C' = C ∧ fs.lookup m = none then (fa env S1).bind fun xs S2 => if xs.length + 1 = n then g (o :: xs) S2 else .bad else .bad
      | _ => .bad)
    | _ => .bad) ∧
  (∀ (C : Addr) (n : Nat) (g : Fn) (fa : DL.Env → Sto → R (List D)) (env : DL.Env) (S : Sto), eMake C n g fa env S = (fa env S).bind fun xs S1 => if xs.length + 1 = n then (g (.ref S1.length :: xs) (S1 ++ [.ins C []])).bind fun v S2 => (match v with | .non => .ok (.ref S1.length) S2 | _ => .bad) else .bad) ∧
  (∀ (fa fb : DL.Env → Sto → R D) (env : DL.Env) (S : Sto), eAnd fa fb env S = (fa env S).bind fun x S1 => (R.ofO (dTruth x S1) S1).bind fun b S2 => match b with | true => fb env S2 | false => .ok x S2) ∧
  (∀ (fa fb : DL.Env → Sto → R D) (env : DL.Env) (S : Sto), eOr fa fb env S = (fa env S).bind fun x S1 => (R.ofO (dTruth x S1) S1).bind fun b S2 => match b with | true => .ok x S2 | false => fb env S2) ∧
  (∀ (fa : DL.Env → Sto → R D) (env : DL.Env) (S : Sto), eNot fa env S = (fa env S).bind fun x S1 => (R.ofO (dTruth x S1) S1).bind fun b S2 => .ok (.bl (!b)) S2) ∧
  (∀ (fa : DL.Env → Sto → R D) (env : DL.Env) (S : Sto), eFmt fa env S = (fa env S).bind fmtD) ∧
  (∀ (fs : List (DL.Env → Sto → R D)) (env : DL.Env) (S : Sto), eJs fs env S = (jsD fs PySem.Str.empty env S).bind fun z S1 => .ok (.str z) S1) := ⟨fun _ _ _ _ _ => rfl, fun _ _ _ _ _ _ => rfl, fun _ _ _ _ _ _ _ _ => rfl, fun _ _ _ _ _ _ => rfl, fun _ _ _ _ => rfl, fun _ _ _ _ => rfl, fun _ _ _ => rfl, fun _ _ _ => rfl, fun _ _ _ => rfl⟩
theorem ev5 : (∀ (a : D) (S : Sto), R.ofO (some a) S = .ok a S) ∧ (∀ (a : Bool) (S : Sto), R.ofO (some a) S = .ok a S) ∧ (∀ (b : Bool) (S : Sto), dTruth (.bl b) S = some b) := ⟨fun _ _ => rfl, fun _ _ => rfl, fun _ _ => rfl⟩
theorem strOk_of (s : String) : PyData.strOk (PySem.Str.ofString s) = true := by
  unfold PyData.strOk
  rw [PySem.Str.ofString_eq_toList, ← Array.all_toList, List.all_eq_true]
  intro c hc
  simp only [List.mem_map] at hc
  obtain ⟨ch, _, rfl⟩ := hc
  have : ch.toNat < 1114112 := by
    have := ch.valid
    simp only [UInt32.isValidChar, Nat.isValidChar] at this
    show ch.val.toNat < 1114112
    omega
  simpa using this
theorem strOk_app {x y : Str} (hx : PyData.strOk x = true) (hy : PyData.strOk y = true) : PyData.strOk (x ++ y) = true := by
  unfold PyData.strOk at *
  rw [← Array.all_toList] at *
  rw [str_app, List.all_append, hx, hy]
  rfl
theorem len_app (x y : Str) : (x ++ y).length = x.length + y.length := by simp [str_len, str_app]
theorem app_assoc (x y z : Str) : x ++ y ++ z = x ++ (y ++ z) := by
  apply str_ext
  simp [str_app]
theorem emp_app (x : Str) : PySem.Str.empty ++ x = x := by
  apply str_ext
  rw [str_app]
  rfl
theorem addS {a b : Str} {S : Sto} (h : a.length + b.length ≤ 1000000) : dAdd (.str a) (.str b) S = .ok (.str (a ++ b)) S := by
  show (if a.length + b.length ≤ sizeLine then R.ok (D.str (a ++ b)) S else .bad) = _
  rw [if_pos (Nat.le_trans h (by rw [sizeLine_eq]; decide))]
theorem eq_str {a b : Str} {S : Sto} (ha : PyData.strOk a = true) (hb : PyData.strOk b = true) : dEq (.str a) (.str b) S = .ok (.bl (decide (a = b))) S := by
  have := dEqB_k (S := S) (x := .inr a) (y := .inr b) ha hb
  unfold dEq
  rw [show dEqB S (.str a) (.str b) = some (decide (a = b)) by simpa [kD] using this]
  rfl
theorem ne_str {a b : Str} {S : Sto} (ha : PyData.strOk a = true) (hb : PyData.strOk b = true) : dNe (.str a) (.str b) S = .ok (.bl (!decide (a = b))) S := by
  have := dEqB_k (S := S) (x := .inr a) (y := .inr b) ha hb
  unfold dNe
  rw [show dEqB S (.str a) (.str b) = some (decide (a = b)) by simpa [kD] using this]
  rfl
theorem eq_tup {a b : List Key} {S : Sto} (ha : tOk a = true) (hb : tOk b = true) : dEq (tuD a) (tuD b) S = .ok (.bl (decide (a = b))) S := by
  unfold dEq
  rw [dEqB_t ha hb]
  rfl
theorem ne_tup {a b : List Key} {S : Sto} (ha : tOk a = true) (hb : tOk b = true) : dNe (tuD a) (tuD b) S = .ok (.bl (!decide (a = b))) S := by
  unfold dNe
  rw [dEqB_t ha hb]
  rfl
theorem eq_bl {a b : Bool} {S : Sto} : dEq (.bl a) (.bl b) S = .ok (.bl (a == b)) S := by cases a <;> cases b <;> rfl
theorem ne_bl {a b : Bool} {S : Sto} : dNe (.bl a) (.bl b) S = .ok (.bl (!(a == b))) S := by cases a <;> cases b <;> rfl
/-- S, and more -/
def Px (S S' : Sto) : Prop := ∃ J, S' = S ++ J
theorem Px.refl (S : Sto) : Px S S := ⟨[], by simp⟩
theorem Px.trans {S S1 S2 : Sto} (h : Px S S1) (h' : Px S1 S2) : Px S S2 := by
  obtain ⟨J, rfl⟩ := h
  obtain ⟨J', rfl⟩ := h'
  exact ⟨J ++ J', by simp⟩
theorem Px.snoc (S : Sto) (o : O) : Px S (S ++ [o]) := ⟨[o], rfl⟩
theorem Px.at {S S' : Sto} (h : Px S S') {m : Nat} {o : O} (e : S[m]? = some o) : S'[m]? = some o := by
  obtain ⟨J, rfl⟩ := h
  rw [List.getElem?_append_left (List.getElem?_eq_some_iff.mp e).1]
  exact e
theorem Px.dr {S S' : Sto} (h : Px S S') {n : Nat} (d : Dr n S) : Dx n S S' := by
  obtain ⟨J, rfl⟩ := h
  have hl := d.lt
  obtain ⟨a, b, e, r⟩ := d
  exact ⟨⟨a, b, by rw [List.getElem?_append_left hl]; exact e, r⟩, by simp, fun m _ hm => List.getElem?_append_left hm⟩
theorem Px.len {S S' : Sto} (h : Px S S') : S.length ≤ S'.length := by
  obtain ⟨J, rfl⟩ := h
  simp
theorem ix_lst {S : Sto} {r k : Nat} {xs : List D} (h : S[r]? = some (.lst xs)) (hk : k < xs.length) : dIx (.ref r) (.int k) S = .ok xs[k] S := by
  show (match S[r]? with | some (.lst xs) => (match (D.int (k : Int)) with | .int i => R.ofO (L2.atI xs i) S | _ => .bad) | _ => _) = _
  rw [h]
  simp only [atI_nat' hk]
  rfl
theorem len_lst {S : Sto} {r : Nat} {xs : List D} (h : S[r]? = some (.lst xs)) : bLen (.rf (.ref r)) S = .ok (.int xs.length) S := by simp [bLen, h]
theorem git_lst {S : Sto} {r : Nat} {xs : List D} (h : S[r]? = some (.lst xs)) : gIt (.ref r) S = .ok ⟨xs, fun S => S[r]? = some (.lst xs)⟩ S := by simp [gIt, h]
theorem app_lst {S : Sto} {r : Nat} {xs : List D} {y : D} (h : S[r]? = some (.lst xs)) (hl : xs.length + 1 ≤ 1000000) : mAppend (.ref r) [y] S = .ok .non (S.set r (.lst (xs ++ [y]))) := by
  simp [mAppend, h, sml hl]
theorem tyD_lst {S : Sto} {r : Nat} {xs : List D} (h : S[r]? = some (.lst xs)) : tyD "list" (.ref r) S = true := by simp [tyD, h]
end DL

namespace DL
open PySem PySem.Spec PyProof.Rows L2

theorem W_seq {f g : DL.Env → Sto → RS} {env : DL.Env} {S : Sto} {N : DL.Env → Sto → Prop} {T : D → Sto → Prop} (Mid : DL.Env → Sto → Prop) (h : (f env S).W Mid T) (k : ∀ e S', Mid e S' → (g e S').W N T) : (sSeq f g env S).W N T := by
  show ((f env S).bind g).W N T
  rw [RS.W_bind]
  exact h.mono k fun _ _ h => h
/-- a choice from a list that is written there -/
theorem ix_pick {xs : List D} {v : Int} (h0 : 0 ≤ v) (h1 : v < xs.length) : ∃ x, x ∈ xs ∧ L2.atI xs v = some x := by
  obtain ⟨k, rfl⟩ := Int.eq_ofNat_of_zero_le h0
  have hk : k < xs.length := by omega
  exact ⟨xs[k], List.getElem_mem hk, atI_nat' hk⟩
theorem ix_ref {S : Sto} {r : Nat} {xs : List D} {v : Int} (h : S[r]? = some (.lst xs)) (h0 : 0 ≤ v) (h1 : v < xs.length) : ∃ x, x ∈ xs ∧ dIx (.ref r) (.int v) S = .ok x S := by
  obtain ⟨k, rfl⟩ := Int.eq_ofNat_of_zero_le h0
  have hk : k < xs.length := by omega
  exact ⟨xs[k], List.getElem_mem hk, ix_lst h hk⟩
/-- how many rounds -/
theorem rounds (m n : Nat) (h0 : m ≤ 60) : ∃ K : Nat, max (1 : Int) (min (m : Int) (n : Int)) = (K : Int) ∧ K ≤ 63 ∧ ∀ k, k < K → k < n ∨ n = 0 :=
  ⟨max 1 (min m n), by omega, by omega, fun k hk => by omega⟩
theorem getA_lst {S : Sto} {r : Nat} {xs : List D} (h : S[r]? = some (.lst xs)) : getA (.rf (.ref r)) S = .ok xs S := by simp [getA, h]
theorem getB_lst {S : Sto} {r : Nat} {xs : List D} (h : S[r]? = some (.lst xs)) : getB (.rf (.ref r)) S = .ok xs S := by simp [getB, getA, h]
theorem list_lst {S : Sto} {r : Nat} {xs : List D} (h : S[r]? = some (.lst xs)) : bList (.rf (.ref r)) S = .ok xs S := by simp [bList, h]
/-- two lists of tuples -/
theorem ne_lst {S : Sto} {r q : Nat} {xs ys : List (List Key)} (h1 : S[r]? = some (.lst (xs.map tuD))) (h2 : S[q]? = some (.lst (ys.map tuD))) (hx : ∀ t ∈ xs, tOk t = true) (hy : ∀ t ∈ ys, tOk t = true) : dNe (.ref r) (.ref q) S = .ok (.bl (!decide (xs = ys))) S := by
  unfold dNe
  rw [dEqB_l h1 h2 hx hy]
  rfl
theorem eq_lst {S : Sto} {r q : Nat} {xs ys : List (List Key)} (h1 : S[r]? = some (.lst (xs.map tuD))) (h2 : S[q]? = some (.lst (ys.map tuD))) (hx : ∀ t ∈ xs, tOk t = true) (hy : ∀ t ∈ ys, tOk t = true) : dEq (.ref r) (.ref q) S = .ok (.bl (decide (xs = ys))) S := by
  unfold dEq
  rw [dEqB_l h1 h2 hx hy]
  rfl
theorem at_snoc {S : Sto} {o : O} : (S ++ [o])[S.length]? = some o := List.getElem?_concat_length ..
end DL

/-! sets of flat tuples whose parts are whole numbers and texts, mixed -/
namespace DL
open PySem PySem.Spec PyProof.Rows L2

abbrev TKy := List Key
abbrev hM (P : Program) (w : World) (k : TKy) : Int := tupleKeyHash (mixKind P w) k
abbrev isM (P : Program) (w : World) (h : Heap) (k : TKy) (a : Addr) : Prop := IsTupleKey (mixKind P w) h k a
section
variable {P : Program} {w : World} {A : Around} {E : Value → Shared → Prop} {s : Shared}
theorem parts_key {k : TKy} {vs : List Value} (h : ItemsAre (mixKind P w) k vs) : ∀ v ∈ vs, (∃ i t, v = .int i t) ∨ ∃ x t, v = .str x t := by
  induction h with
  | nil => exact fun v hv => nomatch hv
  | @cons k0 v' ks vs h1 _ ih =>
    intro v hv
    cases hv with
    | head =>
      rcases keyIs_shape h1 with ⟨i, t, _, e⟩ | ⟨x, t, _, e⟩
      · exact .inl ⟨i, t, e⟩
      · exact .inr ⟨x, t, e⟩
    | tail _ hv => exact ih v hv
theorem noClass {n : Nat} {v : Value} (h : (∃ i t, v = .int i t) ∨ ∃ x t, v = .str x t) : ofAClassStatement n v = pure false := by
  rcases h with ⟨i, t, rfl⟩ | ⟨x, t, rfl⟩ <;> cases n <;> rfl
theorem noClassM {k : TKy} {b : Addr} {Q : Bool → Shared → Prop} (hk : isM P w s.heap k b) (q : Q false s) : wpAny (model P w) A (ofAClassStatement 8 (.ref b)) Q E s := by
  have tt := hk.typeIs
  obtain ⟨o, its, n, ho, _, hd, hi⟩ := hk
  unfold ofAClassStatement
  refine wpAny_bind (wpAny_typeOf tt ?_)
  simp only [show (("tuple" : String) == "tuple") = true from by decide, if_true, Bool.not_true, Bool.false_eq_true, if_false]
  try refine wpAny_bind (wpAny_pure ?_)
  try simp only [Bool.not_true, Bool.false_eq_true, if_false]
  refine wpAny_bind (wpAny_seqItems (a := b) (o := o) (items := its) ho hd ?_)
  dsimp only
  refine wpAny_bind (m := forIn its _ _) ?_
  rw [← Array.forIn_toList]
  refine wpAny_forIn_list _ (fun rest r s' => r.1 = none ∧ s' = s ∧ ∀ v ∈ rest, (∃ i t, v = Value.int i t) ∨ ∃ x t, v = Value.str x t) _ (fun v rest r s' ⟨hr, es, al⟩ => ?_) (fun r s' ⟨hr, es, _⟩ => ?_) _ _ ⟨rfl, rfl, parts_key hi⟩
  · subst es
    rw [noClass (al v List.mem_cons_self)]
    refine wpAny_bind (wpAny_pure ?_)
    simp only [Bool.false_eq_true, if_false]
    exact wpAny_pure ⟨rfl, rfl, fun u m => al u (List.mem_cons_of_mem _ m)⟩
  · subst es
    obtain ⟨r1, r2⟩ := r
    cases hr
    exact wpAny_pure q
theorem byVal {n : Nat} {v : Value} (h : (∃ i t, v = .int i t) ∨ ∃ x t, v = .str x t) : ∃ b, hashByValue n v = pure b := by
  rcases h with ⟨i, t, rfl⟩ | ⟨x, t, rfl⟩
  · exact ⟨true, by cases n <;> rfl⟩
  · exact ⟨false, by cases n <;> rfl⟩
theorem byValM {k : TKy} {b : Addr} {Q : Bool → Shared → Prop} (hk : isM P w s.heap k b) (q : ∀ z, Q z s) : wpAny (model P w) A (hashByValue 8 (.ref b)) Q E s := by
  have tt := hk.typeIs
  obtain ⟨o, its, n, ho, _, hd, hi⟩ := hk
  unfold hashByValue
  refine wpAny_bind (wpAny_specialOf tt F.slot_tuple_hash.lookup ?_)
  refine wpAny_bind (m := seqItems? (.ref b)) (wpAny_seqItems (a := b) (o := o) (items := its) ho hd ?_)
  refine wpAny_bind (m := forIn its _ _) ?_
  rw [← Array.forIn_toList]
  refine wpAny_forIn_list _ (fun rest r s' => s' = s ∧ ∀ v ∈ rest, (∃ i t, v = Value.int i t) ∨ ∃ x t, v = Value.str x t) _ (fun v rest r s' ⟨es, al⟩ => ?_) (fun r s' ⟨es, _⟩ => ?_) _ _ ⟨rfl, parts_key hi⟩
  · subst es
    obtain ⟨z, ez⟩ := byVal (n := 7) (al v List.mem_cons_self)
    rw [ez]
    refine wpAny_bind (wpAny_pure ?_)
    cases z
    · simp only [Bool.not_false, if_true]
      exact wpAny_pure (wpAny_pure (q _))
    · simp only [Bool.not_true, Bool.false_eq_true, if_false]
      exact wpAny_pure ⟨rfl, fun u m => al u (List.mem_cons_of_mem _ m)⟩
  · subst es
    obtain ⟨r1, r2⟩ := r
    cases r1 with
    | none => exact wpAny_pure (q _)
    | some z => exact wpAny_pure (q _)
theorem unseenM {k : TKy} {b : Addr} {Q : Bool → Shared → Prop} (hk : isM P w s.heap k b) {ys : List Value} (al : ∀ y ∈ ys, ∃ c k', y = Value.ref c ∧ isM P w s.heap k' c) (q : Q false s) : wpAny (model P w) A (searchCouldBeSeen (.ref b) ys) Q E s := by
  unfold searchCouldBeSeen
  refine wpAny_bind (wpAny_forIn_list _ (fun rest r s' => (s' = s ∧ r.1 = none) ∧ ∀ y ∈ rest, ∃ c k', y = Value.ref c ∧ isM P w s.heap k' c) _ (fun v rest r s' ⟨⟨es, hr⟩, al'⟩ => ?_) (fun r s' ⟨⟨es, hr⟩, _⟩ => ?_) _ _ ⟨⟨rfl, rfl⟩, al⟩)
  · subst es
    obtain ⟨c, k', rfl, hc⟩ := al' v List.mem_cons_self
    have on : ∀ y ∈ rest, ∃ c k', y = Value.ref c ∧ isM P w s'.heap k' c := fun u m => al' u (List.mem_cons_of_mem _ m)
    dsimp only
    by_cases very : (b == c || (carriedByValue (.ref b) && carriedByValue (.ref c))) = true
    · exact wp_if_pos very (wpAny_pure ⟨⟨rfl, rfl⟩, on⟩)
    · refine wp_if_neg very (wpAny_bind (wpAny_eqIsQuiet_tuple hk ?_))
      simp only [Bool.not_true, Bool.false_eq_true, if_false]
      refine wpAny_bind (wpAny_eqIsQuiet_tuple hc ?_)
      simp only [Bool.not_true, Bool.false_eq_true, if_false]
      refine wpAny_bind (noClassM hk ?_)
      simp only [Bool.false_eq_true, if_false]
      refine wpAny_bind (noClassM hc ?_)
      simp only [Bool.false_eq_true, if_false]
      exact wpAny_pure ⟨⟨rfl, rfl⟩, on⟩
  · subst es
    obtain ⟨r1, r2⟩ := r
    cases hr
    exact wpAny_pure q

/-! ### the set -/
abbrev AK := Addr × TKy
def entM (P : Program) (w : World) (p : AK) : Int × Value := (hM P w p.2, .ref p.1)
structure MSet (P : Program) (w : World) (h : Heap) (a : Addr) (L : List AK) (es : Array (Int × Value)) (ep : Nat) (t : SetTable) : Prop where
  obj : ∃ o, h.get? a = some o ∧ o.ExactSet ∧ o.data = .set es ep t
  ents : es.toList = L.map (entM P w)
  tab : TabOk t (L.map fun p => hM P w p.2)
  nod : (L.map Prod.snd).Nodup
  keys : ∀ p ∈ L, isM P w h p.2 p.1
  led : w.params.followText "set-order" = true ∨ t.led = true
  room : L.length * 5 < t.mask * 3
  few : L.length < 64
variable {a : Addr} {L : List AK} {es : Array (Int × Value)} {ep : Nat} {t : SetTable}
theorem ents_size {L : List AK} {es : Array (Int × Value)} (h : es.toList = L.map (entM P w)) : es.size = L.length := by
  rw [← Array.length_toList, h, List.length_map]
theorem ents_get {L : List AK} {es : Array (Int × Value)} (h : es.toList = L.map (entM P w)) {i : Nat} {p : AK} (e : L[i]? = some p) : es[i]? = some (entM P w p) := by
  rw [← Array.getElem?_toList, h, List.getElem?_map, e]
  rfl
theorem fits_of {L : List AK} {es : Array (Int × Value)} {t : SetTable} (h1 : es.size = L.length) (h2 : t.place.size = L.length) (h3 : t.dummies = #[]) (h4 : L.length ≤ t.mask) : t.fits es.size = true := by
  simp only [SetTable.fits, SetTable.fill, h1, h2, h3, beq_self_eq_true, Bool.true_and]
  exact decide_eq_true (by simpa using h4)
theorem MSet.fits (R : MSet P w s.heap a L es ep t) : t.fits es.size = true := by
  have h1 := R.tab.sz
  have h3 := R.room
  rw [List.length_map] at h1
  exact fits_of (ents_size R.ents) h1 R.tab.dm (by omega)
theorem MSet.noGap (R : MSet P w s.heap a L es ep t) : ¬ t.gaveWay = true := by
  have := mask_odd R.tab.mok
  simp [SetTable.gaveWay, this]
/-- the c-th step of the way of a hash -/
abbrev stp (m : Nat) (h : Int) (c : Nat) : SetTable.Probe := nth m (runAt m (SetTable.bits h % (m + 1)) (SetTable.bits h)) c
theorem stp_clean (m : Nat) (h : Int) (c : Nat) : (stp m h c).dummy = none := by
  have go : ∀ (n : Nat) (p : SetTable.Probe), p.dummy = none → (nth m p n).dummy = none := fun n => by
    induction n with
    | zero => exact fun p e => e
    | succ n ih => exact fun p e => ih (adv m p) (by unfold adv; split <;> exact e)
  exact go c _ rfl
theorem stp_add (m : Nat) (h : Int) (c q : Nat) : nth m (stp m h c) q = stp m h (c + q) := (nth_add m c _ q).symm
theorem stp_way (m : Nat) (h : Int) (c q : Nat) : (nth m (stp m h c) q).j = way m h (c + q) := congrArg SetTable.Probe.j (stp_add m h c q)
theorem findM (R : MSet P w s.heap a L es ep t) {x : Addr} {k : TKy} (hx : isM P w s.heap k x) (hu : A.units < cLine) {K : Nat} (hKf : K < 10 * SetTable.turns t.mask) (hK : way t.mask (hM P w k) K ∉ t.place.toList) (hKb : ∀ c, c < K → way t.mask (hM P w k) c ∈ t.place.toList)
    {Q : SetFound → Shared → Prop} (old : k ∈ L.map Prod.snd → Q (.there none) s) (new : k ∉ L.map Prod.snd → Q (.free (way t.mask (hM P w k) K) false) s) :
    ∀ (f c : Nat) (st : Option SetTable.Probe), st.getD (t.probeStart (hM P w k)) = stp t.mask (hM P w k) c → c ≤ K → K - c < f → (∀ (i : Nat) (p : AK), L[i]? = some p → p.2 = k → ∃ c', c ≤ c' ∧ c' < K ∧ t.place.toList[i]? = some (way t.mask (hM P w k) c')) → wpAny (model P w) A (setSearchFrom a (.ref x) (hM P w k) true f st) Q E s := by
  intro f
  induction f with
  | zero => exact fun c st _ _ hf _ => absurd hf (Nat.not_lt_zero _)
  | succ f ih =>
    intro c st hst hc hf hre
    obtain ⟨o, ho, hex, hd⟩ := R.obj
    rw [setSearchFrom_succ]
    refine wpAny_bind (wpAny_setState_of ho hd R.fits ?_)
    dsimp only
    refine wp_if_neg R.noGap ?_
    try refine wpAny_bind (wpAny_pure ?_)
    have way2 := stp_way t.mask (hM P w k) c
    have stp2 := stp_add t.mask (hM P w k) c
    have toK : c + (K - c) = K := by omega
    have spec := go_spec t R.tab.ris R.tab.dm (fun i => (es[i]?.map (·.1)).getD 0) (hM P w k) (10 * SetTable.turns t.mask) (K - c) (stp t.mask (hM P w k) c) (stp_clean _ _ _) (by omega) (fun q hq => by rw [way2]; exact hKb _ (by omega)) (by rw [way2, toK]; exact hK)
    have hashAt : ∀ (i : Nat) (p : AK), L[i]? = some p → (es[i]?.map (·.1)).getD 0 = hM P w p.2 := fun i p e => by rw [ents_get R.ents e]; rfl
    rcases spec with ⟨q, i, hq, hi, hh, hno, hpr⟩ | ⟨hno, hpr⟩
    · have got : t.probe (fun i => (es[i]?.map (·.1)).getD 0) (hM P w k) (st.getD (t.probeStart (hM P w k))) = some (.candidate (way t.mask (hM P w k) (c + q)) i (stp t.mask (hM P w k) (c + (q + 1)))) := by
        rw [hst, ← way2, ← stp2]
        exact hpr
      rw [got]
      dsimp only
      rw [way2] at hi
      have hil : i < L.length := by
        have h1 := (List.getElem?_eq_some_iff.mp hi).1
        have h2 := R.tab.sz
        rw [List.length_map] at h2
        rw [Array.length_toList, h2] at h1
        exact h1
      obtain ⟨p, hp⟩ : ∃ p, L[i]? = some p := ⟨_, List.getElem?_eq_getElem hil⟩
      have hpm : p ∈ L := List.mem_of_getElem? hp
      have rest : wpAny (model P w) A (searchRest a (.ref x) (hM P w k) true f es t (way t.mask (hM P w k) (c + q)) i (stp t.mask (hM P w k) (c + (q + 1)))) Q E s := by
        unfold searchRest
        rw [ents_get R.ents hp]
        dsimp only [entM]
        refine wpAny_bind (wpAny_holding (wpAny_eqBool_tuple hu (R.keys p hpm) hx (wpAny_bind (wpAny_setState_of ho hd R.fits ?_))))
        dsimp only
        by_cases same : p.2 = k
        · exact wp_if_pos (by simp [same]) (wpAny_pure (old (List.mem_map.mpr ⟨p, hpm, same⟩)))
        · refine wp_if_neg (by simp [same]) ?_
          try refine wpAny_bind (wpAny_pure ?_)
          rw [sameMem]
          dsimp only
          have live : t.slot (way t.mask (hM P w k) (c + q)) = .live i := slot_live R.tab.ris hi
          simp only [if_true, live, ents_get R.ents hp, entM]
          refine wpAny_bind (wpAny_isSame_ref_self (wpAny_bind (wpAny_pure ?_)))
          simp only [if_true]
          refine wp_if_neg (by simp [same]) (ih (c + (q + 1)) _ rfl (by omega) (by omega) fun j r hr hrk => ?_)
          obtain ⟨c', a1, a2, a3⟩ := hre j r hr hrk
          have z1 : ¬ c' < c + q := fun z => hno (c' - c) j (by omega) (by rw [way2, show c + (c' - c) = c' by omega]; exact a3) ((hashAt j r hr).trans (congrArg (hM P w) hrk))
          have z2 : c' ≠ c + q := fun z => by
            rw [z] at a3
            have l2 := slot_live R.tab.ris a3
            rw [live] at l2
            cases l2
            rw [hp] at hr
            cases hr
            exact same hrk
          exact ⟨c', by omega, a2, a3⟩
      by_cases hl : t.led = true
      · refine wp_if_neg (by simp [hl]) ?_
        try refine wpAny_bind (wpAny_pure ?_)
        exact rest
      · refine wp_if_pos (by simp [hl]) (wpAny_bind (unseenM hx (fun y hy => ?_) ?_))
        · obtain ⟨e, he, rfl⟩ := List.mem_map.mp hy
          have he2 : e ∈ es.toList := by simpa using (show e ∈ es ∧ e.1 = hM P w k by simpa using he).1
          rw [R.ents] at he2
          obtain ⟨r, hr, rfl⟩ := List.mem_map.mp he2
          exact ⟨r.1, r.2, rfl, R.keys r hr⟩
        · refine wp_if_neg (by decide) ?_
          try refine wpAny_bind (wpAny_pure ?_)
          exact rest
    · have got : t.probe (fun i => (es[i]?.map (·.1)).getD 0) (hM P w k) (st.getD (t.probeStart (hM P w k))) = some (.empty (way t.mask (hM P w k) K) none) := by
        have : way t.mask (hM P w k) K = (nth t.mask (stp t.mask (hM P w k) c) (K - c)).j := by rw [way2, toK]
        rw [hst, this]
        exact hpr
      rw [got]
      refine wpAny_pure (new fun hm => ?_)
      obtain ⟨r, hr, hrk⟩ := List.mem_map.mp hm
      obtain ⟨j, hj, ej⟩ := List.getElem_of_mem hr
      have hr2 : L[j]? = some r := by rw [List.getElem?_eq_getElem hj, ej]
      obtain ⟨c', a1, a2, a3⟩ := hre j r hr2 hrk
      exact hno (c' - c) j (by omega) (by rw [way2, show c + (c' - c) = c' by omega]; exact a3) ((hashAt j r hr2).trans (congrArg (hM P w) hrk))
theorem searchM (R : MSet P w s.heap a L es ep t) {x : Addr} {k : TKy} (hx : isM P w s.heap k x) (hu : A.units < cLine) {Q : SetFound → Shared → Prop} (old : k ∈ L.map Prod.snd → Q (.there none) s)
    (new : ∀ K, k ∉ L.map Prod.snd → way t.mask (hM P w k) K ∉ t.place.toList → (∀ c, c < K → way t.mask (hM P w k) c ∈ t.place.toList) → Q (.free (way t.mask (hM P w k) K) false) s) : wpAny (model P w) A (setSearch a (.ref x) (hM P w k) true) Q E s := by
  have room := R.room
  obtain ⟨K, hKf, hK, hKb⟩ := R.tab.first (by rw [List.length_map]; omega) (hM P w k)
  have big : K < 100000 := by
    have := R.tab.mok
    unfold SetTable.turns at hKf
    rcases this with e | e | e <;> omega
  unfold setSearch
  refine findM R hx hu hKf hK hKb old (fun n => new K n hK hKb) 100000 0 none rfl (Nat.zero_le _) (by omega) fun i p hp hk => ?_
  have hi : (L.map fun p => hM P w p.2)[i]? = some (hM P w k) := by rw [List.getElem?_map, hp, ← hk]; rfl
  have hil : i < t.place.toList.length := by
    have h1 := (List.getElem?_eq_some_iff.mp hp).1
    have h2 := R.tab.sz
    rw [List.length_map] at h2
    rw [Array.length_toList, h2]
    exact h1
  have hj := List.getElem?_eq_getElem hil
  obtain ⟨c, hc, e⟩ := R.tab.before hK hi hj
  exact ⟨c, Nat.zero_le _, hc, by rw [hj, e]⟩
end
end DL

namespace DL
open PySem PySem.Spec PyProof.Rows L2

section
variable {P : Program} {w : World} {A : Around} {E : Value → Shared → Prop} {s : Shared}
theorem isM_but {h h' : Heap} {k : TKy} {a b : Addr} {o : Obj} {es : Array (Int × Value)} {ep : Nat} {t : SetTable} (x : isM P w h k b) (ho : h.get? a = some o) (hd : o.data = .set es ep t) (sb : Heap.SameBut a h h') : isM P w h' k b := by
  obtain ⟨o2, its, n, ho2, hc, hd2, hi⟩ := x
  refine ⟨o2, its, n, (sb.2 b fun z => ?_).trans ho2, hc, hd2, hi⟩
  rw [z, ho] at ho2
  cases ho2
  rw [hd] at hd2
  cases hd2
theorem isM_keep {h h' : Heap} {k : TKy} {b : Addr} (x : isM P w h k b) (hk : ∀ c o, h.get? c = some o → h'.get? c = some o) : isM P w h' k b := by
  obtain ⟨o, its, n, ho, r⟩ := x
  exact ⟨o, its, n, hk b o ho, r⟩
/-- entries picked by their places -/
theorem pickM (L : List AK) (es : Array (Int × Value)) (hr : es.toList = L.map (entM P w)) (order : Array Nat) (pm : order.toList.Perm (List.range L.length)) :
    ∃ L2 : List AK, (order.filterMap (es[·]?)).toList = L2.map (entM P w) ∧ L2.Perm L ∧ (L2.map fun p => hM P w p.2) = order.toList.map fun i => (es.map (·.1)).getD i 0 := by
  have one : ∀ l : List Nat, (∀ i ∈ l, i < L.length) → l.filterMap (fun i => es[i]?) = (l.filterMap fun i => L[i]?).map (entM P w) ∧ ((l.filterMap fun i => L[i]?).map fun p => hM P w p.2) = l.map fun i => (es.map (·.1)).getD i 0 := by
    intro l hl
    induction l with
    | nil => exact ⟨rfl, rfl⟩
    | cons i l ih =>
      have hi := hl i List.mem_cons_self
      have hL := List.getElem?_eq_getElem hi
      have he := ents_get hr hL
      obtain ⟨e1, e2⟩ := ih fun j m => hl j (List.mem_cons_of_mem _ m)
      rw [List.filterMap_cons_some he, List.filterMap_cons_some hL, List.map_cons, List.map_cons, List.map_cons, e1, e2]
      refine ⟨rfl, ?_⟩
      congr 1
      have : (es.map (·.1))[i]? = some (hM P w (L[i]).2) := by rw [Array.getElem?_map, he]; rfl
      simp [Array.getD_eq_getD_getElem?, this]
  obtain ⟨e1, e2⟩ := one order.toList fun i m => List.mem_range.mp (pm.mem_iff.mp m)
  refine ⟨_, by simpa using e1, ?_, e2⟩
  have all : ∀ n, n ≤ L.length → (List.range n).filterMap (fun i => L[i]?) = L.take n := fun n => by
    induction n with
    | zero => exact fun _ => rfl
    | succ n ih =>
      intro hn
      rw [List.range_succ, List.filterMap_append, ih (by omega), List.take_succ, List.filterMap_cons_some (List.getElem?_eq_getElem (by omega : n < L.length)), List.getElem?_eq_getElem (by omega : n < L.length)]
      rfl
  have := pm.filterMap fun i => L[i]?
  rwa [all _ (Nat.le_refl _), List.take_length] at this
variable {a : Addr} {L : List AK} {es : Array (Int × Value)} {ep : Nat} {t : SetTable}
theorem layM {o : Obj} (ho : s.heap.get? a = some o) (hex : o.ExactSet) (hd : o.data = .set es ep t) (hr : es.toList = L.map (entM P w)) (tb : TabOk t (L.map fun p => hM P w p.2)) (hm : L.length ≤ t.mask) (nd : (L.map Prod.snd).Nodup) (tu : ∀ p ∈ L, isM P w s.heap p.2 p.1)
    (ld : w.params.followText "set-order" = true ∨ t.led = true) (few : L.length < 64) {want M : Nat} (hw : SetTable.sizeAbove want - 1 = M) (hM1 : MaskOk M) (hw2 : SetTable.sizeAbove want ≤ 128) (hn : L.length * 5 < M * 3) {Q : Unit → Shared → Prop}
    (q : ∀ h' L' es' ep' t', Heap.SameBut a s.heap h' → MSet P w h' a L' es' ep' t' → L'.Perm L → Q () { s with heap := h' }) : wpAny (model P w) A (setRelay a want) Q E s := by
  have hsl := ents_size hr
  have hpl : t.place.size = L.length := by
    have := tb.sz
    rwa [List.length_map] at this
  have hfit := fits_of hsl hpl tb.dm hm
  obtain ⟨t2, order, el, pm, tb2, em, eld, epl, _⟩ := relaid_ok t (hs := es.map (·.1)) (wanted := want) hw hM1 (by rw [Array.size_map, hsl]; omega)
  rw [Array.size_map, hsl] at pm
  obtain ⟨L2, r1, r2, r3⟩ := pickM L es hr order pm
  rw [← r3] at tb2
  have hs2 : (order.filterMap (es[·]?)).size = es.size := by rw [ents_size r1, r2.length_eq, hsl]
  rw [setRelay_eq]
  refine wpAny_bind (wpAny_setState_of ho hd hfit ?_)
  dsimp only
  refine wp_if_neg (by rw [sizeLine_eq]; omega) ?_
  try refine wpAny_bind (wpAny_pure ?_)
  rw [el]
  dsimp only
  refine wpAny_bind (wp_if_neg (by rw [hs2]; simp) ?_)
  try refine wpAny_bind (wpAny_pure ?_)
  refine wpAny_pure ?_
  dsimp only
  refine wpAny_storeSet_of ho hd ?_ (by rw [hs2, hsl, sizeLine_eq]; omega)
  have sb : Heap.SameBut a s.heap (s.heap.update a (Obj.putSet (order.filterMap (es[·]?)) t2)) := Heap.SameBut.update ..
  exact q _ L2 _ (ep + 1) t2 sb ⟨⟨_, store_at ho hd, ⟨hex.1, hex.2.1, hex.2.2⟩, rfl⟩, r1, tb2, (r2.map Prod.snd).nodup_iff.mpr nd, fun p m => isM_but (tu p (r2.mem_iff.mp m)) ho hd sb, by rw [eld]; exact ld, by rw [r2.length_eq, em]; exact hn, by rw [r2.length_eq]; exact few⟩ r2
theorem tab_plain {hs : List Int} (T : TabOk t hs) (z : Bool) : TabOk (if z = true then t else { t with plain := false }) hs := by
  cases z
  · exact ⟨T.ris, T.dm, T.sz, T.mok, T.bd, T.reach⟩
  · exact T
theorem putM (L : List AK) (p : Nat) (y : AK) : (L.take p ++ y :: L.drop p).Perm (y :: L) := by
  have : (L.take p ++ y :: L.drop p).Perm (y :: (L.take p ++ L.drop p)) := List.perm_middle
  rwa [List.take_append_drop] at this
/-- the new entry is laid down -/
theorem newM (R : MSet P w s.heap a L es ep t) {x : Addr} {k : TKy} (hx : isM P w s.heap k x) (fewer : L.length + 1 < 64) (hm : k ∉ L.map Prod.snd) {K : Nat} (hK : way t.mask (hM P w k) K ∉ t.place.toList) (hb : ∀ c, c < K → way t.mask (hM P w k) c ∈ t.place.toList) (z : Bool) {Q : Bool → Shared → Prop}
    (q : ∀ h' L' es' ep' t', Heap.SameBut a s.heap h' → MSet P w h' a L' es' ep' t' → L'.Perm ((x, k) :: L) → Q true { s with heap := h' }) :
    ∀ t1 : SetTable, t1 = (if z = true then (t.put (way t.mask (hM P w k) K)).1 else { (t.put (way t.mask (hM P w k) K)).1 with plain := false }) →
    wpAny (model P w) A (do
      storeSet a (SetTable.insertAt es (t.put (way t.mask (hM P w k) K)).2 (hM P w k, Value.ref x)) t1
      if !false && t1.tooFull then setRelay a (SetTable.grown (es.size + 1))
      return true) Q E s := by
  intro t1 ht1
  obtain ⟨o, ho, hex, hd⟩ := R.obj
  obtain ⟨q1, q2, q3, q4, q5, q6, q7, q8, q9⟩ := R.tab.put hK hb
  have hsl := ents_size R.ents
  have tb := tab_plain q3 z
  rw [← ht1] at tb
  have em : t1.mask = t.mask := by rw [ht1]; cases z <;> exact q4
  have eld : t1.led = t.led := by rw [ht1]; cases z <;> exact q5
  have efl : t1.fill = L.length + 1 := by
    have : (t.put (way t.mask (hM P w k) K)).1.fill = L.length + 1 := by rw [q9, List.length_map]
    rw [ht1]
    cases z <;> exact this
  rw [q1]
  clear ht1
  generalize hpp : SetTable.below t.place (way t.mask (hM P w k) K) = p at q2 tb
  have pm := putM L p (x, k)
  have hl1 : (L.take p ++ (x, k) :: L.drop p).length = L.length + 1 := pm.length_eq
  have e1 : (SetTable.insertAt es p (hM P w k, Value.ref x)).toList = (L.take p ++ (x, k) :: L.drop p).map (entM P w) := by
    rw [SetTable.toList_insertAt, R.ents, List.map_append, List.map_cons, List.map_take, List.map_drop]
    rfl
  have e2 : (L.map fun p => hM P w p.2).take p ++ hM P w k :: (L.map fun p => hM P w p.2).drop p = (L.take p ++ (x, k) :: L.drop p).map fun p => hM P w p.2 := by
    rw [List.map_append, List.map_cons, List.map_take, List.map_drop]
  rw [e2] at tb
  have nd1 : ((L.take p ++ (x, k) :: L.drop p).map Prod.snd).Nodup := (pm.map Prod.snd).nodup_iff.mpr (by rw [List.map_cons]; exact List.nodup_cons.mpr ⟨hm, R.nod⟩)
  have hes := ents_size e1
  rw [hl1] at hes
  generalize SetTable.insertAt es p (hM P w k, Value.ref x) = es1 at e1 hes ⊢
  generalize L.take p ++ (x, k) :: L.drop p = L1 at pm hl1 tb nd1 e1
  refine wpAny_bind (wpAny_storeSet_of ho hd ?_ (by rw [hes, sizeLine_eq]; omega))
  have sb : Heap.SameBut a s.heap (s.heap.update a (Obj.putSet es1 t1)) := Heap.SameBut.update ..
  have ho1 := store_at (es' := es1) (t' := t1) ho hd
  generalize s.heap.update a (Obj.putSet es1 t1) = h1 at sb ho1 ⊢
  have tu1 : ∀ p ∈ L1, isM P w h1 p.2 p.1 := fun y hy => by
    rcases List.mem_cons.mp (pm.mem_iff.mp hy) with rfl | hy
    · exact isM_but hx ho hd sb
    · exact isM_but (R.keys y hy) ho hd sb
  have ld1 : w.params.followText "set-order" = true ∨ t1.led = true := by rw [eld]; exact R.led
  have room := R.room
  by_cases hf : t1.tooFull = true
  · have full : (L.length + 1) * 5 ≥ t.mask * 3 := by
      have h := hf
      unfold SetTable.tooFull at h
      rw [efl, em] at h
      exact of_decide_eq_true h
    rw [hsl]
    refine wp_if_pos (by simp [hf]) (wpAny_bind ?_)
    have two : (t.mask = 7 ∧ L.length = 4) ∨ (t.mask = 31 ∧ L.length = 18) := by
      rcases R.tab.mok with e | e | e <;> rw [e] at full room <;> omega
    have go : ∀ M, SetTable.sizeAbove (SetTable.grown (L.length + 1)) - 1 = M → MaskOk M → SetTable.sizeAbove (SetTable.grown (L.length + 1)) ≤ 128 → (L.length + 1) * 5 < M * 3 → wpAny (model P w) A (setRelay a (SetTable.grown (L.length + 1))) (fun _ s' => wpAny (model P w) A (pure true) Q E s') E { s with heap := h1 } := fun M g1 g2 g3 g4 =>
      layM (s := { s with heap := h1 }) ho1 ⟨hex.1, hex.2.1, hex.2.2⟩ rfl e1 tb (by rw [hl1, em]; rcases two with ⟨e, f⟩ | ⟨e, f⟩ <;> omega) nd1 tu1 ld1 (by rw [hl1]; exact fewer) g1 g2 g3 (by rw [hl1]; exact g4) fun h2 L2 es2 ep2 t2 sb2 R2 pm2 => wpAny_pure (q h2 L2 es2 ep2 t2 (sb.trans sb2) R2 (pm2.trans pm))
    rcases two with ⟨_, e⟩ | ⟨_, e⟩
    · exact go 31 (by rw [e, size_20]) (.inr (.inl rfl)) (by rw [e, size_20]; decide) (by omega)
    · exact go 127 (by rw [e, size_76]) (.inr (.inr rfl)) (by rw [e, size_76]; decide) (by omega)
  · have notfull : ¬ (L.length + 1) * 5 ≥ t.mask * 3 := fun z => hf (by
      unfold SetTable.tooFull
      rw [efl, em]
      exact decide_eq_true z)
    have last : wpAny (model P w) A (pure true) Q E { s with heap := h1 } := wpAny_pure (q h1 L1 es1 (ep + 1) t1 sb ⟨⟨_, ho1, ⟨hex.1, hex.2.1, hex.2.2⟩, rfl⟩, e1, tb, nd1, tu1, ld1, by rw [hl1, em]; omega, by rw [hl1]; exact fewer⟩ pm)
    first
      | exact wp_if_neg (by simp [hf]) last
      | exact wpAny_bind (wp_if_neg (by simp [hf]) (wpAny_pure last))
theorem addM (R : MSet P w s.heap a L es ep t) {x : Addr} {k : TKy} (hx : isM P w s.heap k x) (hu : A.units < cLine) (fewer : L.length + 1 < 64) {Q : Bool → Shared → Prop}
    (q : ∀ b h' L' es' ep' t', Heap.SameBut a s.heap h' → MSet P w h' a L' es' ep' t' → (k ∈ L.map Prod.snd → L' = L) → (k ∉ L.map Prod.snd → L'.Perm ((x, k) :: L)) → Q b { s with heap := h' }) : wpAny (model P w) A (setAddHashed a (.ref x) (hM P w k)) Q E s := by
  obtain ⟨o, ho, hex, hd⟩ := R.obj
  unfold setAddHashed
  refine wpAny_holding ?_
  rw [show (100000 : Nat) = 99999 + 1 from rfl, setAddHashedIn_succ]
  refine wpAny_bind (wpAny_setState_of ho hd R.fits ?_)
  dsimp only
  refine wp_if_neg (by simp [byScan, Value.scannable]) ?_
  try refine wpAny_bind (wpAny_pure ?_)
  refine wpAny_bind (searchM R hx hu (fun hm => ?_) fun K hm hK hb => ?_)
  · exact wpAny_pure (q false s.heap L es ep t (Heap.SameBut.refl a s.heap) R (fun _ => rfl) fun z => absurd hm z)
  · dsimp only
    refine wpAny_bind (wpAny_setState_of ho hd R.fits ?_)
    dsimp only
    have fin : ∀ z : Bool, wpAny (model P w) A (do
      storeSet a (SetTable.insertAt es (t.put (way t.mask (hM P w k) K)).2 (hM P w k, Value.ref x)) (if z = true then (t.put (way t.mask (hM P w k) K)).1 else { (t.put (way t.mask (hM P w k) K)).1 with plain := false })
      if !false && (if z = true then (t.put (way t.mask (hM P w k) K)).1 else { (t.put (way t.mask (hM P w k) K)).1 with plain := false }).tooFull then setRelay a (SetTable.grown (es.size + 1))
      return true) Q E s := fun z => newM R hx fewer hm hK hb z (fun h' L' es' ep' t' sb R' pm => q true h' L' es' ep' t' sb R' (fun z => absurd z hm) fun _ => pm) _ rfl
    by_cases hp : (t.put (way t.mask (hM P w k) K)).1.plain = true
    · refine wp_if_pos hp (wpAny_bind (byValM hx fun z => ?_))
      exact fin z
    · refine wp_if_neg hp (wpAny_bind (wpAny_pure ?_))
      exact fin true
end
end DL

namespace DL
open PySem PySem.Spec PyProof.Rows L2

/-- what a set has of the first i items -/
structure Has (ks : List AK) (i : Nat) (L : List AK) : Prop where
  sub : ∀ p ∈ L, p ∈ ks.take i
  all : ∀ p ∈ ks.take i, p.2 ∈ L.map Prod.snd
  len : L.length ≤ i
theorem Has.next {ks L L' : List AK} {i : Nat} {x : AK} (g : Has ks i L) (h : ks[i]? = some x) (old : x.2 ∈ L.map Prod.snd → L' = L) (new : x.2 ∉ L.map Prod.snd → L'.Perm (x :: L)) : Has ks (i + 1) L' := by
  have tk : ks.take (i + 1) = ks.take i ++ [x] := by rw [List.take_succ, h]; rfl
  by_cases c : x.2 ∈ L.map Prod.snd
  · rw [old c]
    refine ⟨fun p m => by rw [tk]; exact List.mem_append_left _ (g.sub p m), fun p m => ?_, Nat.le_succ_of_le g.len⟩
    rw [tk] at m
    rcases List.mem_append.mp m with z | z
    · exact g.all p z
    · rw [List.mem_singleton.mp z]
      exact c
  · have pm := new c
    refine ⟨fun p m => ?_, fun p m => ?_, by rw [pm.length_eq]; exact Nat.succ_le_succ g.len⟩
    · rw [tk]
      rcases List.mem_cons.mp (pm.mem_iff.mp m) with z | z
      · rw [z]
        exact List.mem_append_right _ (List.mem_singleton.mpr rfl)
      · exact List.mem_append_left _ (g.sub p z)
    · rw [(pm.map Prod.snd).mem_iff, List.map_cons]
      rw [tk] at m
      rcases List.mem_append.mp m with z | z
      · exact List.mem_cons_of_mem _ (g.all p z)
      · rw [List.mem_singleton.mp z]
        exact List.mem_cons_self
section
variable {P : Program} {w : World} {A : Around} {E : Value → Shared → Prop} {s : Shared}
theorem MSet.keep {h h' : Heap} {a : Addr} {L : List AK} {es : Array (Int × Value)} {ep : Nat} {t : SetTable} (R : MSet P w h a L es ep t) (ha : ∀ o, h.get? a = some o → h'.get? a = some o) (ht : ∀ p ∈ L, isM P w h' p.2 p.1) : MSet P w h' a L es ep t := by
  obtain ⟨o, ho, r⟩ := R.obj
  exact ⟨⟨o, ha o ho, r⟩, R.ents, R.tab, R.nod, ht, R.led, R.room, R.few⟩
abbrev frT (w : World) : SetTable := .fresh 0 0 (!w.params.followText "set-order")
abbrev frS (w : World) : Obj := { cls := .type "set", dict := none, data := .set #[] 0 (frT w) }
theorem MSet.none {h : Heap} {a : Addr} (ho : h.get? a = some (frS w)) : MSet P w h a [] #[] 0 (frT w) := by
  refine ⟨⟨_, ho, ⟨rfl, rfl, rfl⟩, rfl⟩, rfl, ⟨.nil, rfl, rfl, .inl rfl, fun x m => (nomatch m), fun i h j e => by simp at e⟩, .nil, fun p m => (nomatch m), ?_, by show 0 * 5 < 7 * 3; decide, by show 0 < 64; decide⟩
  cases q : w.params.followText "set-order"
  · exact .inr (by show (!w.params.followText "set-order") = true; rw [q]; rfl)
  · exact .inl rfl
theorem loopM {I : Addr} {fp wr : List Addr} {G : Array GenState → Array GenState → Prop} {n : Nat} {Pv : Nat → Value → Prop} {St : Nat → Shared → Prop} {R : Result → Shared → Prop} (W : WalksS P w A.in1 I fp wr G n Pv St) (S : Addr) (out : S ∉ fp) (ks : List AK) (hn : n = ks.length) (few : ks.length < 64)
    (val : ∀ i v, Pv i v → ∃ p, ks[i]? = some p ∧ v = .ref p.1) (h0 : Heap) (hk : ∀ p ∈ ks, isM P w h0 p.2 p.1) (hS0 : h0.get? S = none) (hw0 : ∀ b ∈ wr, h0.get? b = none) (hu : A.in1.units < cLine) :
    ∀ (m i : Nat) (s : Shared), i + m = n → St i s → (∀ b o, h0.get? b = some o → s.heap.get? b = some o) → (∃ L es ep t, MSet P w s.heap S L es ep t ∧ Has ks i L) →
      (∀ s' L es ep t, Moved (S :: wr) G s s' → MSet P w s'.heap S L es ep t → Has ks n L → (∀ b o, h0.get? b = some o → s'.heap.get? b = some o) → R (.ok (.ret .none)) s') → codeAny (model P w) A (.builtin "set.update.loop" ⟨[.ref S, .ref I], []⟩) R s := by
  have hSw : S ∉ wr := fun z => out (W.sub _ z)
  have up : ∀ b ∈ wr, b ∈ S :: wr := fun b z => List.mem_cons_of_mem _ z
  have mv : ∀ {s s' : Shared}, Moved wr G s s' → (∀ b o, h0.get? b = some o → s.heap.get? b = some o) → ∀ b o, h0.get? b = some o → s'.heap.get? b = some o := fun hm kp b o e => hm.heap b o (fun z => by rw [hw0 b z] at e; cases e) (kp b o e)
  intro m
  induction m with
  | zero =>
    rintro i s he hst kp ⟨L, es, ep, t, hS, g⟩ hR
    obtain rfl : i = n := he
    refine codeAny_builtin F.entry_set_update_loop ?_
    rw [Around.under_plainId F.plain_set_update_loop _]
    refine wpAny_bind (m := pyNext (.ref I)) (W.done s _ _ hst fun s' hm => wpAny_pure ?_)
    exact hR s' L es ep t (hm.mono up) (hS.keep (fun o e => hm.heap S o hSw e) fun p z => isM_keep (hk p (List.mem_of_mem_take (g.sub p z))) (mv hm kp)) g (mv hm kp)
  | succ m ih =>
    rintro i s he hst kp ⟨L, es, ep, t, hS, g⟩ hR
    have lt : i < n := by omega
    refine codeAny_builtin F.entry_set_update_loop ?_
    rw [Around.under_plainId F.plain_set_update_loop _]
    refine wpAny_bind (m := pyNext (.ref I)) (W.item i s _ _ lt hst fun v s' hP hst' hm => ?_)
    obtain ⟨p, hp, rfl⟩ := val i v hP
    have kp' := mv hm kp
    have R1 : MSet P w s'.heap S L es ep t := hS.keep (fun o e => hm.heap S o hSw e) fun r z => isM_keep (hk r (List.mem_of_mem_take (g.sub r z))) kp'
    have hx : isM P w s'.heap p.2 p.1 := isM_keep (hk p (List.mem_of_getElem? hp)) kp'
    refine wpAny_bind (m := holding [Value.ref p.1] (setAdd S (.ref p.1))) (wpAny_holding ?_)
    unfold setAdd
    refine wpAny_holding (wpAny_bind (wpAny_pyHash_tuple hu hx ?_))
    refine addM (s := { s' with toks := s'.toks + (p.2.length + 1) }) R1 hx hu (by have := g.len; omega) fun b h' L' es' ep' t' sb R2 c1 c2 => ?_
    have g2 : Has ks (i + 1) L' := g.next hp c1 c2
    have kp2 : ∀ b o, h0.get? b = some o → h'.get? b = some o := fun b o e => (sb.2 b (fun z => by rw [z, hS0] at e; cases e)).trans (kp' b o e)
    have fr : ∀ b ∈ fp, ∀ o, s'.heap.get? b = some o → h'.get? b = some o := fun b z o e => (sb.2 b fun y => out (y ▸ z)).trans e
    refine wpAny_pure ⟨plainId_quiet F.plain_set_update_loop _, ih (i + 1) _ (by omega) (W.frame _ s' _ _ hst' (Nat.le_add_right _ _) fr) kp2 ⟨L', es', ep', t', R2, g2⟩ fun s2 L2 es2 ep2 t2 hm2 hS2 g3 kp3 => ?_⟩
    exact hR s2 L2 es2 ep2 t2 (Moved.trans W.gtrans ((hm.mono up).then_heap (Nat.le_add_right _ _) fun b o z e => (sb.2 b fun y => z (by rw [y]; exact List.mem_cons_self)).trans e) hm2) hS2 g3 kp3
end
end DL

namespace DL
open PySem PySem.Spec PyProof.Rows L2

section
variable {P : Program} {w : World} {A : Around} {E : Value → Shared → Prop} {s : Shared}
/-- set(xs), xs a list -/
theorem callSetM {l : Addr} {items : Array Value} (ks : List AK) {Q : Value → Shared → Prop} (calm : A.handled = none) (hl : s.heap.IsList l items) (hit : items.toList = ks.map fun p => Value.ref p.1) (hk : ∀ p ∈ ks, isM P w s.heap p.2 p.1) (few : ks.length < 64) (hu : A.units + 3 < cLine)
    (q : ∀ (h' : Heap) (tk : Nat) L es ep t, MSet P w h' s.heap.objs.size L es ep t → Has ks ks.length L → (∀ b o, s.heap.get? b = some o → h'.get? b = some o) → Q (.ref s.heap.objs.size) { s with heap := h', toks := tk }) : wpAny (model P w) A (call (.type "set") [.ref l]) Q E s := by
  have isz : items.size = ks.length := by rw [← Array.length_toList, hit, List.length_map]
  obtain ⟨c, tl, hmro⟩ := F.called_set.mro
  have z1 := F.called_set.made
  have z2 := F.called_set.sub
  refine wpAny_call (codeAny_of_tree (show wpAny _ _ (callAny (.type "set") _) _ _ _ from wpAny_pure ⟨Code.quiet_builtin _ (by decide +kernel), codeAny_builtin F.entry_type_call ?_⟩))
  rw [Around.under_plain (weight_type_call_type "set" [.ref l] []) rfl]
  have z3 := F.called_set.notType
  have z4 := F.called_set.canCreate
  have z5 := F.typeCall_set_1 (.ref l)
  repeat any_goals first | assumption | wp_step
  have hpush : (s.heap.push (frS w)).get? s.heap.objs.size = some (frS w) := Heap.get?_push_size _ rfl
  refine codeAny_mono (code_set_led1 (.ref l) (E := E) (Q₁ := fun ob s1 => ob = .ref s.heap.objs.size ∧ s1 = { s with heap := s.heap.push (frS w) }) ⟨rfl, rfl⟩) fun r s1 hr => ?_
  rcases r with ob | fl
  · exact hr
  cases fl with
  | ret ob =>
    obtain ⟨rfl, rfl⟩ := hr
    have hS := hpush
    have hT : Shared.TypeIs { s with heap := s.heap.push (frS w) } (.ref s.heap.objs.size) "set" := ⟨_, hS, rfl⟩
    have z6 := F.called_set.init.lookup
    have z7 := F.called_set.init.bind (.ref s.heap.objs.size)
    repeat any_goals first | assumption | wp_step
    refine codeAny_mono (codeAny_call_builtin (R := wants (fun r s2 => r = .none ∧ ∃ h' tk L es ep t, s2 = { s with heap := h', toks := tk } ∧ MSet P w h' s.heap.objs.size L es ep t ∧ Has ks ks.length L ∧ ∀ b o, s.heap.get? b = some o → h'.get? b = some o) E) F.called_set.init.plain F.entry_set_init (check_set_init_1 hT ?_)) fun r2 s2 hr2 => ?_
    · obtain ⟨⟨ocls, odict, odata, oslots⟩, hol, hcl, nl, hdl⟩ := hl
      simp only at hcl hdl
      subst hcl hdl
      have hol2 : (s.heap.push (frS w)).get? l = some { cls := .type "list", dict := odict, data := .seq items nl, slots := oslots } := Heap.get?_push_of_some _ hol
      have z8 := F.sub_list_set
      have z9 := F.sub_list_frozenset
      have z10 : (Value.type "list" == Value.type "dict") = false := by decide
      have hl1 : (s.heap.push (frS w)).IsList l items := ⟨_, hol2, rfl, nl, rfl⟩
      unfold Builtin.«set.__init__» noKeywords Builtin.Frozenset.updateFrom
      generalize hPI : pyIter = PI
      wp_walk
      subst hPI
      refine wpAny_pyIter_list hl1 (wpAny_bind (wpAny_runValue ?_))
      have hlS : l < s.heap.objs.size := Heap.lt_size hol
      have hz1 : (s.heap.push (frS w)).objs.size = s.heap.objs.size + 1 := Heap.size_push ..
      have hneI : l ≠ (s.heap.push (frS w)).objs.size := by rw [hz1]; exact Nat.ne_of_lt (Nat.lt_succ_of_lt hlS)
      have hSf : s.heap.objs.size ∉ [(s.heap.push (frS w)).objs.size, l] := by
        simp only [List.mem_cons, List.not_mem_nil, or_false, not_or]
        exact ⟨by rw [hz1]; exact Nat.ne_of_lt (Nat.lt_succ_self _), Nat.ne_of_gt hlS⟩
      have vals : ∀ (i : Nat) (v : Value), items[i]? = some v → ∃ p, ks[i]? = some p ∧ v = .ref p.1 := fun i v hv => by
        rw [← Array.getElem?_toList, hit, List.getElem?_map] at hv
        cases e : ks[i]? with
        | none => rw [e] at hv; cases hv
        | some p => rw [e] at hv; exact ⟨p, rfl, (Option.some.inj hv).symm⟩
      have beyond : ∀ b, s.heap.objs.size ≤ b → s.heap.get? b = none := fun b hb => by
        cases e : s.heap.get? b with
        | none => rfl
        | some o => exact absurd (Nat.lt_of_lt_of_le (Heap.lt_size e) hb) (Nat.lt_irrefl _)
      refine loopM ((Walks.list (by simp [calm]) _ l hneI items).toS) s.heap.objs.size hSf ks isz few vals s.heap hk (beyond _ (Nat.le_refl _)) (fun b hb => beyond b (by rw [List.mem_singleton.mp hb, hz1]; exact Nat.le_succ _)) hu items.size 0 _ (Nat.zero_add _) ⟨⟨_, Heap.get?_push_size _ rfl, rfl, rfl⟩, hl1.push _⟩ (fun b o e => Heap.get?_push_of_some _ (Heap.get?_push_of_some _ e)) ⟨[], #[], 0, _, MSet.none (Heap.get?_push_of_some _ hS), ⟨fun p m => (nomatch m), fun p m => by simp at m, Nat.le_refl _⟩⟩ ?_
      intro s3 L es ep t hm hS3 g3 kp3
      obtain ⟨h3, g2, d3, tk3, os3⟩ := s3
      obtain rfl : g2 = s.gens := hm.gens
      obtain rfl : d3 = s.drawn := hm.drawn
      obtain rfl : os3 = s.os := hm.os
      rw [isz] at g3
      exact wpAny_pure (wpAny_pure ⟨rfl, h3, tk3, L, es, ep, t, rfl, hS3, g3, kp3⟩)
    · rcases r2 with e | fl2
      · exact hr2
      cases fl2 with
      | ret r =>
        obtain ⟨rfl, h', tk, L, es, ep, t, rfl, R, g, kp⟩ := hr2
        repeat any_goals first | assumption | wp_step
        exact q _ _ _ _ _ _ R g kp
      | _ => exact hr2.elim
  | _ => exact hr.elim
end
end DL

/-! sorting flat tuples of which each two can be compared -/
namespace DL
open PySem PySem.Spec PyProof.Rows L2 PySem.W PySem.SeqAt

section
variable {P : Program} {w : World} {A : Around} {E : Value → Shared → Prop} {s : Shared}
theorem tLt_neg (a b c : TKy) (h : DL.tLt a c = true) : DL.tLt a b = true ∨ DL.tLt b c = true := by
  by_cases e : a = b
  · exact .inr (e ▸ h)
  · rcases tLt_total e with z | z
    · exact .inl z
    · exact .inr (tLt_trans z h)
theorem tLt_tot (a b : TKy) (h1 : DL.tLt a b = false) (h2 : DL.tLt b a = false) : a = b := by
  by_cases e : a = b
  · exact e
  · rcases tLt_total e with z | z
    · rw [z] at h1; cases h1
    · rw [z] at h2; cases h2
def kyOf (L : List AK) : Value → Option TKy
  | .ref a => (L.find? fun p => p.1 == a).map Prod.snd
  | _ => none
noncomputable def rowKind (L : List AK) : PyProof.Rows.KeyKind where
  α := TKy
  blt := DL.tLt
  irrefl := tLt_irrefl
  trans := fun _ _ _ => tLt_trans
  negTrans := tLt_neg
  total := tLt_tot
  keyOf := kyOf L
  dflt := []
theorem kyOf_inv {L : List AK} {v : Value} {k : TKy} (h : kyOf L v = some k) : ∃ a, v = .ref a ∧ (a, k) ∈ L := by
  cases v with
  | ref a =>
    simp only [kyOf, Option.map_eq_some_iff] at h
    obtain ⟨p, hp, rfl⟩ := h
    have h1 := List.mem_of_find?_eq_some hp
    have h2 := List.find?_some hp
    have : p.1 = a := by simpa using h2
    exact ⟨a, rfl, by rw [← this]; exact h1⟩
  | _ => cases h
theorem kyOf_mem {L : List AK} {h : Heap} (hk : ∀ p ∈ L, isM P w h p.2 p.1) {p : AK} (hp : p ∈ L) : kyOf L (.ref p.1) = some p.2 := by
  have : ∃ q, L.find? (fun q => q.1 == p.1) = some q := by
    cases e : L.find? (fun q => q.1 == p.1) with
    | some q => exact ⟨q, rfl⟩
    | none => exact absurd (List.find?_eq_none.mp e p hp) (by simp)
  obtain ⟨q, hq⟩ := this
  have h1 := List.mem_of_find?_eq_some hq
  have h2 : q.1 = p.1 := by simpa using List.find?_some hq
  have i1 := hk q h1
  rw [h2] at i1
  have : q.2 = p.2 := i1.inj (hk p hp)
  simp only [kyOf, hq, Option.map_some, this]
theorem reads_key {h : Heap} {k : Key} {v : Value} (e : keyIs k v = true) : Reads h v (kpy k) [] := by
  rcases keyIs_shape e with ⟨i, t, rfl, rfl⟩ | ⟨x, t, rfl, rfl⟩
  · exact .int i t
  · exact .str x t
theorem kpy_nt (k : Key) (xs : List PyData) : kpy k ≠ .tuple xs := by cases k <;> exact fun e => nomatch e
theorem kpy_nn (k : Key) : kpy k ≠ .none := by cases k <;> exact fun e => nomatch e
theorem lexM {b fin : Bool} {Q : Bool → Shared → Prop} (hu : A.units < cLine) : ∀ (xs ys : TKy) (i : Nat) (vs ws : List Value), ItemsAre (mixKind P w) xs vs → ItemsAre (mixKind P w) ys ws → DL.tCmp xs ys = true → fin = decide (xs.length < ys.length) → Q (DL.tLt xs ys) s → KatLex P w A b fin Q (vs.zip ws) i s
  | [], [], i, _, _, .nil, .nil, _, hf, q => by
    subst hf
    exact kat_nil q
  | [], y :: ys, i, _, _, .nil, .cons _ _, _, hf, q => by
    subst hf
    rw [List.zip_nil_left]
    refine kat_nil ?_
    simpa [DL.tLt] using q
  | x :: xs, [], i, _, _, .cons _ _, .nil, _, hf, q => by
    subst hf
    rw [List.zip_nil_right]
    refine kat_nil ?_
    simpa [DL.tLt] using q
  | x :: xs, y :: ys, i, _, _, .cons (v := v) hv hvs, .cons (v := u) hw hws, hc, hf, q => by
    rw [List.zip_cons_cons]
    simp only [DL.tCmp] at hc
    simp only [DL.tLt] at q
    have r1 : Reads s.heap v (kpy x) [] := reads_key hv
    have r2 : Reads s.heap u (kpy y) [] := reads_key hw
    have hd : A.units + min (kpy x).depth (kpy y).depth < cLine := by rw [depth_k, depth_k]; simpa using hu
    have hxy : kSame x y = true := by
      by_cases e : x = y
      · subst e; cases x <;> rfl
      · rwa [if_neg e] at hc
    refine kat_cons (eqAt_alike _ _ A s _ _ _ _ r1 r2 (alike_k hxy) hd P w _ _ ?_)
    rw [eqv_kpy]
    by_cases e : x = y
    · rw [if_pos e] at hc q
      rw [decide_eq_true e]
      exact kat_yes (lexM hu xs ys (i + 1) _ _ hvs hws hc (by rw [hf]; simp) q)
    · rw [if_neg e] at q
      rw [decide_eq_false e]
      refine kat_no (oneLt_alike (fun _ => kpy_nt x) r1 r2 (alike_k hxy) (kpy_nn x) hd ?_)
      rw [dataLt_k hxy]
      exact q
theorem firstsM {L : List AK} (hk : ∀ p ∈ L, isM P w s.heap p.2 p.1) (full : ∀ x ∈ L.map Prod.snd, x ≠ []) : ∀ vs : List Value, (∀ v ∈ vs, ∃ p ∈ L, v = .ref p.1) → ∃ fs, KatTups s.heap vs fs ∧ fs.length = vs.length ∧ ∀ f ∈ fs, ∃ k r, (k :: r) ∈ L.map Prod.snd ∧ keyIs k f = true
  | [], _ => ⟨[], .nil, rfl, fun f m => (nomatch m)⟩
  | v :: vs, hv => by
    obtain ⟨fs, h1, h2, h3⟩ := firstsM hk full vs fun u m => hv u (List.mem_cons_of_mem _ m)
    obtain ⟨p, hp, rfl⟩ := hv v List.mem_cons_self
    obtain ⟨o, its, n, ho, hc, hd, hi⟩ := hk p hp
    have hm : p.2 ∈ L.map Prod.snd := List.mem_map.mpr ⟨p, hp, rfl⟩
    have hf := full _ hm
    generalize p.2 = ks at hi hm hf
    cases hi' : its.toList with
    | nil =>
      rw [hi'] at hi
      cases hi
      exact absurd rfl hf
    | cons f rest =>
      rw [hi'] at hi
      cases hi with
      | @cons k _ r _ e1 e2 =>
        refine ⟨f :: fs, .cons ho hc hd (by rw [← Array.getElem?_toList, hi']; rfl) h1, by rw [List.length_cons, List.length_cons, h2], fun g m => ?_⟩
        rcases List.mem_cons.mp m with rfl | m
        · exact ⟨k, r, hm, e1⟩
        · exact h3 g m
theorem kSame_comm (x y : Key) : kSame x y = kSame y x := by cases x <;> cases y <;> rfl
theorem typ_key {x y : Key} (h : kSame x y = true) : dataType (kpy x) = dataType (kpy y) := by
  cases x <;> cases y <;> first | rfl | cases h
theorem typ_nt (k : Key) : (dataType (kpy k) != Value.type "tuple") = true := by
  cases k with
  | inl i => exact (by decide : (Value.type "int" != Value.type "tuple") = true)
  | inr x => exact (by decide : (Value.type "str" != Value.type "tuple") = true)
/-- each two can be compared; none is empty; the first parts are of one kind -/
structure Rows (ts : List TKy) : Prop where
  cmp : ∀ x ∈ ts, ∀ y ∈ ts, DL.tCmp x y = true
  full : ∀ x ∈ ts, x ≠ []
  head : ∀ x ∈ ts, ∀ y ∈ ts, tSame (x.take 1) (y.take 1) = true
theorem sortsM {L : List AK} (hk : ∀ p ∈ L, isM P w s.heap p.2 p.1) (hr : Rows (L.map Prod.snd)) (hu : A.units < cLine) {vs : List Value} (hv : ∀ v ∈ vs, ∃ p ∈ L, v = .ref p.1) : SortsAt P w A s (rowKind L) vs := by
  refine ⟨fun v m => ?_, tuples' true, ?_, fun h2 E Q q => ?_⟩
  · obtain ⟨p, hp, rfl⟩ := hv v m
    exact ⟨_, kyOf_mem hk hp⟩
  · intro E x y a b Q ha hb q
    obtain ⟨x, rfl, mx⟩ := kyOf_inv ha
    obtain ⟨y, rfl, my⟩ := kyOf_inv hb
    obtain ⟨ox, ix, nx, hox, _, hdx, hix⟩ := hk _ mx
    obtain ⟨oy, iy, ny, hoy, _, hdy, hiy⟩ := hk _ my
    have l1 : ix.size = a.length := by rw [← Array.length_toList]; exact hix.length.symm
    have l2 : iy.size = b.length := by rw [← Array.length_toList]; exact hiy.length.symm
    exact kat_lt hox hdx hoy hdy (lexM hu a b 0 _ _ hix hiy (hr.cmp a (List.mem_map.mpr ⟨_, mx, rfl⟩) b (List.mem_map.mpr ⟨_, my, rfl⟩)) (by rw [l1, l2]) q)
  · obtain ⟨fs, t1, t2, t3⟩ := firstsM hk hr.full vs hv
    have ne : ∃ f, f ∈ fs := by
      cases fs with
      | nil => rw [List.length_nil] at t2; omega
      | cons f _ => exact ⟨f, List.mem_cons_self⟩
    obtain ⟨f0, m0⟩ := ne
    obtain ⟨k0, r0, a0, _⟩ := t3 f0 m0
    refine kat_kind (T := dataType (kpy k0)) t1 (by omega) (fun f m => ?_) (beq_self_eq_true _) (by rw [typ_nt]; exact q)
    obtain ⟨k, r, a1, a2⟩ := t3 f m
    have hs := hr.head _ a1 _ a0
    rw [typ_key (x := k0) (y := k) (by simpa [tSame, kSame_comm] using hs)]
    exact looks_reads (reads_key a2)
end
end DL

/-! len(set(xs)), sorted(set(xs)), sorted(xs) of flat tuples -/
namespace DL
open PySem PySem.Spec PyProof.Rows L2

/-- the set at a, without the tuples themselves -/
structure MSet0 (P : Program) (w : World) (h : Heap) (a : Addr) (L : List AK) : Prop where
  ex : ∃ (es : Array (Int × Value)) (ep : Nat) (t : SetTable), (∃ o, h.get? a = some o ∧ o.ExactSet ∧ o.data = .set es ep t) ∧ es.toList = L.map (entM P w) ∧ TabOk t (L.map fun p => hM P w p.2) ∧ (L.map Prod.snd).Nodup ∧ (w.params.followText "set-order" = true ∨ t.led = true) ∧ L.length * 5 < t.mask * 3 ∧ L.length < 64
def MSetO (P : Program) (w : World) (a : Addr) (L : List AK) : HO := .ext fun h => MSet0 P w h a L
section
variable {P : Program} {w : World} {A : Around} {E : Value → Shared → Prop} {s : Shared} {X : Cx}
theorem MSet.less {h : Heap} {a : Addr} {L : List AK} {es : Array (Int × Value)} {ep : Nat} {t : SetTable} (R : MSet P w h a L es ep t) : MSet0 P w h a L := ⟨⟨es, ep, t, R.obj, R.ents, R.tab, R.nod, R.led, R.room, R.few⟩⟩
theorem MSet0.whole {h : Heap} {a : Addr} {L : List AK} (R : MSet0 P w h a L) (hk : ∀ p ∈ L, isM P w h p.2 p.1) : ∃ es ep t, MSet P w h a L es ep t := by
  obtain ⟨es, ep, t, h1, h2, h3, h4, h5, h6, h7⟩ := R.ex
  exact ⟨es, ep, t, h1, h2, h3, h4, hk, h5, h6, h7⟩
theorem msetO_ok {H : Hp} {h : Heap} {a : Addr} {L : List AK} (R : MSet0 P w h a L) : ObjOk P w H h a (MSetO P w a L) := by
  obtain ⟨es, ep, t, ⟨o, ho, _⟩, _⟩ := R.ex
  refine ⟨R, ⟨o, ho⟩, fun h1 h2 p k => ?_⟩
  obtain ⟨es', ep', t', ⟨o', ho', r'⟩, q'⟩ := MSet0.ex p
  exact ⟨es', ep', t', ⟨o', k o' ho', r'⟩, q'⟩
theorem items_kv : ∀ {k : TKy} {us : List Value}, Vals (k.map kV) us → ItemsAre (mixKind P w) k us
  | [], _, .nil => .nil
  | .inl i :: k, _, .cons r t => by
    obtain ⟨tk, rfl⟩ := r
    exact .cons (keyIs_int i tk) (items_kv t)
  | .inr x :: k, _, .cons r t => by
    obtain ⟨tk, rfl⟩ := r
    exact .cons (keyIs_str x tk) (items_kv t)
theorem refs_kv : ∀ {ks : List AK} {us : List Value}, Vals (ks.map fun p => V.ref p.1) us → us = ks.map fun p => Value.ref p.1
  | [], _, .nil => rfl
  | p :: ks, _, .cons r t => by
    cases r
    rw [refs_kv t]
    rfl
theorem kv_refs : ∀ ks : List AK, Vals (ks.map fun p => V.ref p.1) (ks.map fun p => Value.ref p.1)
  | [] => .nil
  | p :: ks => .cons rfl (kv_refs ks)
theorem inv_isM {pins : List (Addr × Obj)} {σ : St} {H : Hp} {s : Shared} {b : Addr} {k : TKy} (I : Inv X pins σ H s) (h : SqT X.K H b (k.map kV)) : isM X.prog X.w s.heap k b := by
  obtain ⟨its, r, ⟨o, ho, hc, n, hd⟩, _⟩ := I.tuple h
  exact ⟨o, its.toArray, n, ho, hc, hd, by simpa using items_kv r⟩
def rSetM (K : PySem.W.Frag) (P : Program) (w : World) : List V → Hp → VK → Prop := fun xs H Q => ∃ (l : Addr) (ks : List AK), xs = [V.ref l] ∧ SqL K H l (ks.map fun p => V.ref p.1) ∧ (∀ p ∈ ks, SqT K H p.1 (p.2.map kV)) ∧ ks.length < 64 ∧
  ∀ a L, H a = none → (∀ p ∈ L, p ∈ ks) → (∀ p ∈ ks, p.2 ∈ L.map Prod.snd) → (L.map Prod.snd).Nodup → Q (.ref a) (upd H a (MSetO P w a L))
theorem cr_setM (hc : X.calm = true) (hu : X.A.units + 64 < cLine) : CallR X (.type "set") (rSetM X.K X.prog X.w) := by
  intro pins s σ H xs us Q I r h
  obtain ⟨l, ks, rfl, hl, hk, hf, q⟩ := h
  rw [Vals.ref1 r]
  obtain ⟨its, rv, pl, hz⟩ := I.list hl
  refine callSetM (P := X.prog) (w := X.w) ks (I.ok.hd hc) pl.isList (by simpa using refs_kv rv) (fun p hp => inv_isM I (hk p hp)) hf (by omega) fun h' tk L es ep t R g k => ?_
  exact ⟨.ref s.heap.objs.size, _, I.laid (t' := tk) k (Nat.le_refl _) (msetO_ok R.less), rfl, q _ L (I.hok.fresh (Nat.le_refl _)) (fun p hp => List.mem_of_mem_take (g.sub p hp)) (fun p hp => g.all p (by rw [List.take_length]; exact hp)) R.nod⟩
/-- len of it -/
def rLenM (P : Program) (w : World) : List V → Hp → VK → Prop := fun xs H Q => ∃ (a : Addr) (L : List AK), xs = [V.ref a] ∧ H a = some (MSetO P w a L) ∧ Q (.int L.length) H
theorem cr_lenM : CallR X (.builtin "len") (rLenM X.prog X.w) := by
  intro pins s σ H xs us Q I r h
  obtain ⟨a, L, rfl, ha, q⟩ := h
  rw [Vals.ref1 r]
  have R0 : MSet0 X.prog X.w s.heap a L := (I.hok a _ ha).1
  obtain ⟨es, ep, t, ⟨o, ho, hex, hd⟩, h2, h3, h4, h5, h6, h7⟩ := R0.ex
  have hsz := ents_size h2
  have hpl : t.place.size = L.length := by
    have := h3.sz
    rwa [List.length_map] at this
  refine call_len_set ho hex hd (fits_of hsz hpl h3.dm (by omega)) (by rw [hsz]; omega) ⟨.int L.length, H, I.tok _, ⟨_, by rw [hsz]⟩, q⟩
/-- sorted of it -/
def rSortM (K : PySem.W.Frag) (P : Program) (w : World) : List V → Hp → VK → Prop := fun vs H Q => ∃ (a : Addr) (L : List AK), vs = [V.ref a] ∧ H a = some (MSetO P w a L) ∧ (∀ p ∈ L, SqT K H p.1 (p.2.map kV)) ∧ Rows (L.map Prod.snd) ∧
  ∀ (L' : List AK) (p : Addr), L'.Perm L → L'.Pairwise (fun x y => DL.tLe x.2 y.2 = true) → H p = none → Q (.ref p) (upd H p (.lst (L'.map fun q => V.ref q.1)))
theorem own_refs {L : List AK} : ∀ vs : List Value, (∀ v ∈ vs, v ∈ L.map fun p => Value.ref p.1) → ∃ L1 : List AK, vs = L1.map (fun p => Value.ref p.1) ∧ ∀ p ∈ L1, p ∈ L
  | [], _ => ⟨[], rfl, fun p m => (nomatch m)⟩
  | v :: vs, h => by
    obtain ⟨L1, e, hs⟩ := own_refs vs fun u m => h u (List.mem_cons_of_mem _ m)
    obtain ⟨p, hp, rfl⟩ := List.mem_map.mp (h v List.mem_cons_self)
    exact ⟨p :: L1, by rw [e]; rfl, fun r m => (List.mem_cons.mp m).elim (fun z => z ▸ hp) (hs r)⟩
theorem refs_inj {L : List AK} {h : Heap} (hk : ∀ p ∈ L, isM P w h p.2 p.1) {p r : AK} (hp : p ∈ L) (hr : r ∈ L) (e : p.1 = r.1) : p = r := by
  have a := hk p hp
  rw [e] at a
  have : p.2 = r.2 := a.inj (hk r hr)
  exact Prod.ext e this
theorem nod_of {α β : Type} {f : α → β} {l : List α} (h : (l.map f).Nodup) : l.Nodup := List.Pairwise.of_map f (fun _ _ ne e => ne (congrArg f e)) h
theorem perm_refs {L L1 : List AK} {h : Heap} (hk : ∀ p ∈ L, isM P w h p.2 p.1) (nd : (L.map Prod.snd).Nodup) (hs : ∀ p ∈ L1, p ∈ L) (pm : (L1.map fun p => Value.ref p.1).Perm (L.map fun p => Value.ref p.1)) : L1.Perm L := by
  have nL := nod_of nd
  have nr : (L.map fun p => Value.ref p.1).Nodup := List.pairwise_map.mpr (List.Pairwise.imp_of_mem (fun {p r} hp hr ne e => ne (refs_inj hk hp hr (by injection e))) nL)
  refine (List.perm_ext_iff_of_nodup (nod_of (pm.nodup_iff.mpr nr)) nL).mpr fun p => ⟨hs p, fun hp => ?_⟩
  obtain ⟨r, hr, e⟩ := List.mem_map.mp (pm.mem_iff.mpr (List.mem_map.mpr ⟨p, hp, rfl⟩))
  have := refs_inj hk (hs r hr) hp (by injection e)
  exact this ▸ hr
/-- what sorting leaves -/
theorem sorted_refs {L : List AK} {h : Heap} (hk : ∀ p ∈ L, isM P w h p.2 p.1) (L1 : List AK) (hs : ∀ p ∈ L1, p ∈ L) : ∃ L2 : List AK, PySem.W.sortVals (rowKind L) false (L1.map fun p => Value.ref p.1) (L1.map fun p => Value.ref p.1) = L2.map (fun p => Value.ref p.1) ∧ L2 = L1.mergeSort fun x y => DL.tLe x.2 y.2 := by
  have each : ∀ l : List AK, PySem.W.EachIs (fun v (p : AK) => v = Value.ref p.1) (l.map fun p => Value.ref p.1) l := fun l => by
    induction l with
    | nil => exact .nil
    | cons p l ih => exact .cons rfl ih
  have keyd : ∀ l : List AK, (∀ p ∈ l, p ∈ L) → PySem.W.EachIs (fun v (p : AK) => (rowKind L).keyOf v = some p.2) (l.map fun p => Value.ref p.1) l := fun l => by
    induction l with
    | nil => exact fun _ => .nil
    | cons p l ih => exact fun hl => .cons (kyOf_mem hk (hl p List.mem_cons_self)) (ih fun r m => hl r (List.mem_cons_of_mem _ m))
  have := PySem.W.sortVals_each (rev := false) (κ := rowKind L) Prod.snd (each L1) (keyd L1 hs)
  have e2 : ∀ {vs : List Value} {l : List AK}, PySem.W.EachIs (fun v (p : AK) => v = Value.ref p.1) vs l → vs = l.map fun p => Value.ref p.1 := fun {vs l} z => by
    induction z with
    | nil => rfl
    | cons e _ ih => rw [e, ih]; rfl
  exact ⟨_, e2 this, rfl⟩
theorem sorted_pw (l : List AK) : (l.mergeSort fun x y => DL.tLe x.2 y.2).Pairwise fun x y => DL.tLe x.2 y.2 = true := List.pairwise_mergeSort (fun x y z => DL.tLe_trans x.2 y.2 z.2) (fun x y => DL.tLe_total x.2 y.2) l
theorem sortedSetM {a : Addr} {L : List AK} {es : Array (Int × Value)} {ep : Nat} {t : SetTable} {Q : Value → Shared → Prop} (R : MSet P w s.heap a L es ep t) (calm : A.handled = none) (hr : Rows (L.map Prod.snd)) (hu : A.units + 2 < cLine)
    (q : ∀ s' p (out : Array Value) (c : Nat) (L' : List AK), (∀ b o, s.heap.get? b = some o → s'.heap.get? b = some o) → s'.gens = s.gens → s'.os = s.os → s.heap.objs.size ≤ p → s'.heap.get? p = some (seqObj "list" out c) → out.toList = L'.map (fun r => Value.ref r.1) → L'.Perm L → L'.Pairwise (fun x y => DL.tLe x.2 y.2 = true) → Q (.ref p) s') :
    wpAny (model P w) A (call (.builtin "sorted") [.ref a]) Q E s := by
  obtain ⟨o, ho, hex, hd⟩ := R.obj
  have hsz := ents_size R.ents
  have few := R.few
  refine Calls.call_function_entry kind_sorted plain_sorted entry_sorted (args_sorted1 _) ?_
  unfold Builtin.«sorted»
  refine wpAny_bind (m := checkCount "sorted" 1 1 _) (wpAny_pure (wpAny_bind (collect_set (A := A.in1) calm ⟨o, ho, hex.1, hd⟩ R.fits (by unfold scanBound; omega) R.tab.ris R.led fun s1 vs k1 hz g1 o1 pm => ?_)))
  have hes : es.toList.map (·.2) = L.map fun r => Value.ref r.1 := by
    rw [R.ents, List.map_map]
    rfl
  rw [hes] at pm
  obtain ⟨L1, rfl, hs⟩ := own_refs vs fun v m => pm.mem_iff.mp m
  have pL := perm_refs R.keys R.nod hs pm
  have hl1 : L1.length < 64 := by rw [pL.length_eq]; exact few
  have hL : (L1.map fun r => Value.ref r.1).length ≤ sizeLine := by rw [List.length_map, sizeLine_eq]; omega
  refine wpAny_bind (wpAny_newList ?_ (by simpa using hL))
  have hoL : (s1.heap.push (seqObj "list" (L1.map fun r => Value.ref r.1).toArray 0)).get? s1.heap.objs.size = some (seqObj "list" (L1.map fun r => Value.ref r.1).toArray 0) := Heap.get?_push_size _ rfl
  have sorting : ∀ b o, s.heap.get? b = some o → (PySem.W.sortingHeap (s1.heap.push (seqObj "list" (L1.map fun r => Value.ref r.1).toArray 0)) s1.heap.objs.size (L1.map fun r => Value.ref r.1)).get? b = some o := fun b o e => by
    have := k1 b o e
    exact PySem.W.sortingHeap_old (Nat.ne_of_lt (Heap.lt_size this)) (Heap.get?_push_of_some _ this)
  have S := sortsM (P := P) (w := w) (A := A.in1.in1) (s := { s1 with heap := PySem.W.sortingHeap (s1.heap.push (seqObj "list" (L1.map fun r => Value.ref r.1).toArray 0)) s1.heap.objs.size (L1.map fun r => Value.ref r.1) }) (fun r m => isM_keep (R.keys r m) sorting) hr hu (vs := L1.map fun r => Value.ref r.1) (fun v m => by
    obtain ⟨r, hr, rfl⟩ := List.mem_map.mp m
    exact ⟨r, hs r hr, rfl⟩)
  obtain ⟨L2, e2, e3⟩ := sorted_refs R.keys L1 hs
  refine wpAny_bind (wpAny_holding (wpAny_call_entry slot_list_sort ⟨_, hoL, rfl⟩ entry_list_sort (PySem.W.list_sort_vals (s := { s1 with heap := s1.heap.push (seqObj "list" (L1.map fun r => Value.ref r.1).toArray 0) }) hoL S hL ⟨_, rfl, ?_⟩) (args_list_sort _)))
  obtain ⟨c, hc⟩ := sortedHeap_at (vs := L1.map fun r => Value.ref r.1) (out := (PySem.W.sortVals (rowKind L) false (L1.map fun r => Value.ref r.1) (L1.map fun r => Value.ref r.1)).toArray) hoL
  refine wpAny_pure ⟨_, rfl, q _ s1.heap.objs.size _ c L2 (fun b u e => ?_) g1 o1 hz hc (by simpa using e2) (by rw [e3]; exact (List.mergeSort_perm _ _).trans pL) (by rw [e3]; exact sorted_pw L1)⟩
  have e1 := k1 b u e
  have lt := Heap.lt_size e1
  exact (sortedHeap_old (Nat.ne_of_lt lt) (by rw [size_push']; exact Nat.lt_succ_of_lt lt)).trans (Heap.get?_push_of_some _ e1)
end
end DL

namespace DL
open PySem PySem.Spec PyProof.Rows L2

section
variable {X : Cx}
theorem cr_sortM (hc : X.calm = true) (hu : X.A.units + 64 < cLine) : CallR X (.builtin "sorted") (rSortM X.K X.prog X.w) := by
  intro pins s σ H vs us Q I r h
  obtain ⟨a, L, rfl, ha, hk, hr, q⟩ := h
  have R0 : MSet0 X.prog X.w s.heap a L := (I.hok a _ ha).1
  obtain ⟨es, ep, t, R⟩ := R0.whole fun p hp => inv_isM I (hk p hp)
  rw [Vals.ref1 r]
  refine sortedSetM R (I.ok.hd hc) hr (by omega) fun s' p out c L' k g o hp hg hout pm pw => ?_
  have len : (L'.map fun q => V.ref q.1).length ≤ sizeLine := by
    have := R.few
    rw [List.length_map, pm.length_eq, sizeLine_eq]
    omega
  have hn : H p = none := I.hok.fresh hp
  have J : Inv X pins σ (upd H p (.lst (L'.map fun q => V.ref q.1))) { s with heap := s'.heap, gens := s'.gens, drawn := s'.drawn, toks := s'.toks } :=
    I.call (ch := []) (Un.laid k hp hn) (I.hok.laid k hp ⟨len, out.toList, c, by rw [hout]; exact kv_refs L', hg⟩) (by rw [g]; exact I.bare) (fun _ z => nomatch z)
  have e : s' = { s with heap := s'.heap, gens := s'.gens, drawn := s'.drawn, toks := s'.toks } := by
    cases s'; cases s; cases o; rfl
  rw [e]
  exact ⟨.ref p, _, J, rfl, q L' p pm pw hn⟩
/-- sorted(xs), xs a list of flat tuples of which each two can be compared -/
def rSortL (K : PySem.W.Frag) : List V → Hp → VK → Prop := fun vs H Q => ∃ (a : Addr) (L : List AK), vs = [V.ref a] ∧ SqL K H a (L.map fun p => V.ref p.1) ∧ (∀ p ∈ L, SqT K H p.1 (p.2.map kV)) ∧ Rows (L.map Prod.snd) ∧ L.length ≤ sizeLine ∧
  ∀ p, H p = none → Q (.ref p) (upd H p (.lst ((L.mergeSort fun x y => DL.tLe x.2 y.2).map fun q => V.ref q.1)))
theorem cr_sortL (hu : X.A.units + 64 < cLine) : CallR X (.builtin "sorted") (rSortL X.K) := by
  intro pins s σ H vs us Q I r h
  obtain ⟨a, L, rfl, ha, hk, hr, hz, q⟩ := h
  obtain ⟨its, rv, hl, _⟩ := I.list ha
  rw [Vals.ref1 r]
  have hi := refs_kv rv
  have keys : ∀ p ∈ L, isM X.prog X.w s.heap p.2 p.1 := fun p hp => inv_isM I (hk p hp)
  subst hi
  have S := sortsM (P := X.prog) (w := X.w) (A := X.A.in1.in1) (s := { s with heap := PySem.W.sortingHeap (PySem.W.copyHeap s.heap (L.map fun r => Value.ref r.1)) (s.heap.objs.size + 1) (L.map fun r => Value.ref r.1) }) (fun r m => isM_keep (keys r m) fun _ _ e => PySem.W.sorting_copy_old e) hr (show X.A.units + 2 < cLine by omega) (vs := L.map fun r => Value.ref r.1) (fun v m => by
    obtain ⟨r, hr, rfl⟩ := List.mem_map.mp m
    exact ⟨r, hr, rfl⟩)
  obtain ⟨L2, e2, e3⟩ := sorted_refs keys L (fun _ m => m)
  refine PySem.W.sorted_vals hl.isList S (by rw [List.length_map]; exact hz) ?_
  obtain ⟨ep, he⟩ := PyProof.Rows.sortedAll_at s.heap (L.map fun r => Value.ref r.1) (PySem.W.sortVals (rowKind L) false (L.map fun r => Value.ref r.1) (L.map fun r => Value.ref r.1)).toArray
  have len : ((L.mergeSort fun x y => DL.tLe x.2 y.2).map fun q => V.ref q.1).length ≤ sizeLine := by rw [List.length_map, List.length_mergeSort]; exact hz
  refine ⟨.ref _, upd H (s.heap.objs.size + 1) (.lst _), I.laid (t' := s.toks) (fun _ _ => PyProof.Rows.sortedAll_old) (Nat.le_succ _) ⟨len, _, ep, ?_, he⟩, rfl, q _ (I.hok.fresh (Nat.le_succ _))⟩
  rw [e2, e3]
  exact kv_refs _
end
end DL

namespace DL
open PySem PySem.Spec PyProof.Rows L2

/-! ### the data's side -/
def keyI : D → Option Key
  | .int i => some (.inl i)
  | .str x => some (.inr x)
  | _ => none
def tupI : D → Option TKy
  | .tup ds => ds.mapM keyI
  | _ => none
def tups (xs : List D) : Option (List TKy) := xs.mapM tupI
theorem keyI_kD (k : Key) : keyI (kD k) = some k := by cases k <;> rfl
theorem mapM_some {α β : Type} {f : β → Option α} {g : α → β} (h : ∀ a, f (g a) = some a) : ∀ l : List α, (l.map g).mapM f = some l
  | [] => rfl
  | a :: l => by rw [List.map_cons, List.mapM_cons, h a, mapM_some h l]; rfl
theorem mapM_inv {α β : Type} {f : β → Option α} {g : α → β} (h : ∀ b a, f b = some a → b = g a) : ∀ {l : List β} {m : List α}, l.mapM f = some m → l = m.map g
  | [], m, e => by cases e; rfl
  | b :: l, m, e => by
    rw [List.mapM_cons] at e
    cases q : f b with
    | none => rw [q] at e; cases e
    | some a =>
      cases q2 : l.mapM f with
      | none => rw [q, q2] at e; cases e
      | some m2 =>
        rw [q, q2] at e
        cases e
        rw [h b a q, mapM_inv h q2]
        rfl
theorem keyI_inv (d : D) (k : Key) (h : keyI d = some k) : d = kD k := by
  cases d <;> cases h <;> rfl
theorem tupI_tuD (k : TKy) : tupI (tuD k) = some k := mapM_some keyI_kD k
theorem tupI_inv (d : D) (k : TKy) (h : tupI d = some k) : d = tuD k := by
  cases d with
  | tup ds => rw [mapM_inv keyI_inv (show ds.mapM keyI = some k from h)]
  | _ => cases h
theorem tups_tuD (ts : List TKy) : tups (ts.map tuD) = some ts := mapM_some tupI_tuD ts
theorem tups_inv {xs : List D} {ts : List TKy} (h : tups xs = some ts) : xs = ts.map tuD := mapM_inv tupI_inv h
open Classical in
/-- each once -/
noncomputable def dd : List TKy → List TKy
  | [] => []
  | x :: r => if x ∈ dd r then dd r else x :: dd r
theorem dd_mem {x : TKy} : ∀ {l : List TKy}, x ∈ dd l ↔ x ∈ l
  | [] => Iff.rfl
  | y :: r => by
    have ih := dd_mem (x := x) (l := r)
    simp only [dd]
    split
    · rename_i h
      rw [ih, List.mem_cons]
      exact ⟨.inr, fun z => z.elim (fun e => e ▸ dd_mem.mp h) id⟩
    · rw [List.mem_cons, List.mem_cons, ih]
theorem dd_nod : ∀ l : List TKy, (dd l).Nodup
  | [] => .nil
  | y :: r => by
    simp only [dd]
    split
    · exact dd_nod r
    · rename_i h
      exact List.nodup_cons.mpr ⟨h, dd_nod r⟩
theorem dd_perm {l m : List TKy} (nd : m.Nodup) (h : ∀ x, x ∈ m ↔ x ∈ l) : m.Perm (dd l) := (List.perm_ext_iff_of_nodup nd (dd_nod l)).mpr fun x => (h x).trans dd_mem.symm
theorem dd_id {l : List TKy} (nd : l.Nodup) : dd l = l := by
  classical
  induction l with
  | nil => rfl
  | cons x r ih =>
    have h := List.nodup_cons.mp nd
    rw [dd, ih h.2, if_neg h.1]
theorem dd_len {l : List TKy} : (dd l).length ≤ l.length := by
  induction l with
  | nil => exact Nat.le_refl _
  | cons x r ih =>
    simp only [dd]
    split
    · exact Nat.le_succ_of_le ih
    · exact Nat.succ_le_succ ih
theorem dd_nodup_iff {l : List TKy} : (dd l).length = l.length ↔ l.Nodup := by
  refine ⟨fun h => ?_, fun h => by rw [dd_id h]⟩
  induction l with
  | nil => exact .nil
  | cons x r ih =>
    simp only [dd] at h
    split at h
    · have := dd_len (l := r)
      rw [List.length_cons] at h
      omega
    · rename_i hx
      rw [List.length_cons, List.length_cons] at h
      exact List.nodup_cons.mpr ⟨fun z => hx (dd_mem.mpr z), ih (by omega)⟩
theorem Rows.sub {l m : List TKy} (r : Rows l) (h : ∀ x ∈ m, x ∈ l) : Rows m := ⟨fun x hx y hy => r.cmp x (h x hx) y (h y hy), fun x hx => r.full x (h x hx), fun x hx y hy => r.head x (h x hx) y (h y hy)⟩
open Classical in
/-- sorted(set(xs)) -/
noncomputable def bSortSet (l : LS) (S : Sto) : R (List D) := (getB l S).bind fun xs S1 => match tups xs with
  | some ts => if ts.length < 64 ∧ Rows ts then .ok (((dd ts).mergeSort DL.tLe).map tuD) S1 else .bad
  | none => .bad
/-- len(set(xs)) -/
noncomputable def bLenSet (l : LS) (S : Sto) : R D := (getB l S).bind fun xs S1 => match tups xs with
  | some ts => if ts.length < 64 then .ok (.int (dd ts).length) S1 else .bad
  | none => .bad
open Classical in
/-- sorted(xs): flat tuples of which each two can be compared, or alike data -/
noncomputable def bSortX (l : LS) (S : Sto) : R (List D) := (getB l S).bind fun xs S1 => match tups xs with
  | some ts => if Rows ts ∧ ts.length ≤ sizeLine then .ok ((ts.mergeSort DL.tLe).map tuD) S1 else bSort l S
  | none => bSort l S
section
variable {X : Cx} {W : WX} {k : Nat} {N : List Str} {vis loc : List Nat} {gls : List Str} {e e2 : Expr} {x : Str} {p p2 pos q2 : Pos} {gl : Env → Sto → R LS} {K : PySem.W.Frag} {H : Hp} {ι : List Addr}
theorem kvs_of : ∀ {ks : TKy} {vs : List V}, DVs K H ι (ks.map kD) vs → vs = ks.map kV
  | [], _, .nil => rfl
  | .inl i :: ks, _, .cons h t => by
    cases h
    rw [kvs_of t]
    rfl
  | .inr s :: ks, _, .cons h t => by
    cases h
    rw [kvs_of t]
    rfl
theorem sq_of {ks : TKy} {a : Addr} (h : DV K H ι (tuD ks) (.ref a)) : SqT K H a (ks.map kV) := by
  cases h with
  | tup h1 d => exact kvs_of d ▸ SqT.of h1
theorem pairs_of : ∀ {ts : List TKy} {vs : List V}, DVs K H ι (ts.map tuD) vs → ∃ L : List AK, vs = L.map (fun p => V.ref p.1) ∧ L.map Prod.snd = ts ∧ ∀ p ∈ L, DV K H ι (tuD p.2) (.ref p.1)
  | [], _, .nil => ⟨[], rfl, rfl, fun p m => (nomatch m)⟩
  | t :: ts, _, .cons (v := v) h r => by
    obtain ⟨L, e1, e2, h3⟩ := pairs_of r
    have : ∃ a, v = .ref a := by cases h; exact ⟨_, rfl⟩
    obtain ⟨a, rfl⟩ := this
    exact ⟨(a, t) :: L, by rw [e1]; rfl, by rw [← e2]; rfl, fun p m => (List.mem_cons.mp m).elim (fun z => z ▸ h) (h3 p)⟩
theorem dvs_of {L : List AK} (h : ∀ p ∈ L, DV K H ι (tuD p.2) (.ref p.1)) : DVs K H ι ((L.map Prod.snd).map tuD) (L.map fun p => V.ref p.1) := by
  induction L with
  | nil => exact .nil
  | cons p L ih => exact .cons (h p List.mem_cons_self) (ih fun q m => h q (List.mem_cons_of_mem _ m))
/-- behind set(xs): what any rule of sets wants -/
theorem set_end {rel : Rl D D} {σ : St} {S : Sto} {L : List AK} {a : Addr} {o : HO} (hn : H a = none) (hk : ∀ p ∈ L, DV K H ι (tuD p.2) (.ref p.1)) : ∀ p ∈ L, DV K (upd H a o) ι (tuD p.2) (.ref p.1) := fun p m => (hk p m).mono (Ext.junk _ hn).toGr
theorem members {ks L : List AK} {ts : List TKy} (e : ks.map Prod.snd = ts) (h1 : ∀ p ∈ L, p ∈ ks) (h2 : ∀ p ∈ ks, p.2 ∈ L.map Prod.snd) (x : TKy) : x ∈ L.map Prod.snd ↔ x ∈ ts := by
  subst e
  refine ⟨fun m => ?_, fun m => ?_⟩
  · obtain ⟨p, hp, rfl⟩ := List.mem_map.mp m
    exact List.mem_map.mpr ⟨p, h1 p hp, rfl⟩
  · obtain ⟨p, hp, rfl⟩ := List.mem_map.mp m
    exact h2 p hp
theorem sortset_ok : Rl1 X W (fun us H Q => rSetM X.K X.prog X.w us H fun v H1 => rSortM X.K X.prog X.w [v] H1 Q) bSortSet := fun σ H0 H ι0 ι S l v Q e r d h => by
  obtain ⟨a, xs, vs, rfl, hs, ds, h⟩ := getB_end r d h
  cases q : tups xs with
  | none => rw [q] at h; exact h.elim
  | some ts =>
    rw [q] at h
    simp only at h
    obtain rfl := tups_inv q
    obtain ⟨ks, rfl, e2, hk⟩ := pairs_of ds
    by_cases hc : ts.length < 64 ∧ Rows ts
    · rw [if_pos hc] at h
      refine ⟨a, ks, rfl, hs, fun p m => sq_of (hk p m), by rw [← e2, List.length_map] at hc; exact hc.1, fun b L hb h1 h2 nd => ?_⟩
      have hk2 : ∀ p ∈ L, DV X.K (upd H b (MSetO X.prog X.w b L)) ι (tuD p.2) (.ref p.1) := fun p m => (hk p (h1 p m)).mono (Ext.junk _ hb).toGr
      have mem := members e2 h1 h2
      refine ⟨b, L, rfl, upd_same, fun p m => sq_of (hk2 p m), hc.2.sub fun x m => (mem x).mp m, fun L' p pm pw hp => ?_⟩
      have es : L'.map Prod.snd = (dd ts).mergeSort DL.tLe := by
        refine sorted_eq ?_ (List.pairwise_map.mpr pw) (sort_sorted _)
        exact ((pm.map Prod.snd).trans (dd_perm nd mem)).trans (List.mergeSort_perm _ _).symm
      rw [← es] at h
      exact h ι _ _ ((Ext.junk _ hb).trans (Ext.junk _ hp)) ((r.junk _ hb).junk _ hp) ⟨p, _, rfl, (e.trans (Ext.junk _ hb)).was hp, upd_same, (dvs_of fun p m => hk2 p (pm.mem_iff.mp m)).mono (Ext.junk _ hp).toGr, (r.junk _ hb).free hp⟩
    · rw [if_neg hc] at h
      exact h.elim
theorem lenset_ok : Rd1 X W (fun us H Q => rSetM X.K X.prog X.w us H fun v H1 => rLenM X.prog X.w [v] H1 Q) bLenSet := fun σ H0 H ι0 ι S l v Q e r d h => by
  obtain ⟨a, xs, vs, rfl, hs, ds, h⟩ := getB_end r d h
  cases q : tups xs with
  | none => rw [q] at h; exact h.elim
  | some ts =>
    rw [q] at h
    simp only at h
    obtain rfl := tups_inv q
    obtain ⟨ks, rfl, e2, hk⟩ := pairs_of ds
    by_cases hc : ts.length < 64
    · rw [if_pos hc] at h
      refine ⟨a, ks, rfl, hs, fun p m => sq_of (hk p m), by rw [← e2, List.length_map] at hc; exact hc, fun b L hb h1 h2 nd => ?_⟩
      have mem := members e2 h1 h2
      have el : L.length = (dd ts).length := by rw [← (dd_perm nd mem).length_eq, List.length_map]
      refine ⟨b, L, rfl, upd_same, ?_⟩
      rw [el]
      exact h ι _ _ (Ext.junk _ hb) (r.junk _ hb) (.int _)
    · rw [if_neg hc] at h
      exact h.elim
theorem sortx_ok : Rl1 X W (fun us H Q => rSortL X.K us H Q ∨ rSortD X us H Q) bSortX := fun σ H0 H ι0 ι S l v Q e r d h => by
  have h0 := h
  obtain ⟨a, xs, vs, rfl, hs, ds, h⟩ := getB_end r d h
  cases q : tups xs with
  | none => rw [q] at h; exact .inr (sort_ok σ H0 H ι0 ι S l _ Q e r d h)
  | some ts =>
    rw [q] at h
    simp only at h
    obtain rfl := tups_inv q
    obtain ⟨ks, rfl, e2, hk⟩ := pairs_of ds
    by_cases hc : Rows ts ∧ ts.length ≤ sizeLine
    · rw [if_pos hc] at h
      refine .inl ⟨a, ks, rfl, hs, fun p m => sq_of (hk p m), by rw [e2]; exact hc.1, by rw [← e2, List.length_map] at hc; exact hc.2, fun p hp => ?_⟩
      have es : (ks.mergeSort fun x y => DL.tLe x.2 y.2).map Prod.snd = ts.mergeSort DL.tLe := by
        rw [← e2]
        exact List.map_mergeSort fun a _ b _ => rfl
      rw [← es] at h
      exact tmp_end e r (dvs_of fun p m => hk p ((List.mergeSort_perm _ _).mem_iff.mp m)) h hp
    · rw [if_neg hc] at h
      exact .inr (sort_ok σ H0 H ι0 ι S l _ Q e r d h)
theorem cr_or {f : Value} {r1 r2 : List V → Hp → VK → Prop} (h1 : CallR X f r1) (h2 : CallR X f r2) : CallR X f (fun us H Q => r1 us H Q ∨ r2 us H Q) := fun pins s σ H vs us Q I r h => h.elim (h1 pins s σ H vs us Q I r) (h2 pins s σ H vs us Q I r)
theorem dl_sortx (c : Ctx X W k N vis loc gls) (ha : PE X e (tLS X.K gl W)) (hm : X.mg "sorted" = none) (hg : gls.contains ("sorted" : Str) = true := by decide +kernel) (hs : starEach [e] X.env = (false, eval e X.env) :: starEach [] X.env := by rfl) : PE X (.Call (.Name "sorted" p) [e] [] pos) (tTm X.K (eB1 gl bSortX) W) :=
  dl_b1 c (cr_or (cr_sortL (by have := c.hr.un; omega)) (cr_sortD (by have := c.hr.un; omega))) sortx_ok ha hm (by decide +kernel) hg (by decide +kernel) (by decide +kernel) hs
theorem dl_sortset (c : Ctx X W k N vis loc gls) (ha : PE X e (tLS X.K gl W)) (hm : X.mg "sorted" = none) (hm2 : X.mg "set" = none) (hg : gls.contains ("sorted" : Str) = true := by decide +kernel) (hg2 : gls.contains ("set" : Str) = true := by decide +kernel)
    (hs : starEach [e] X.env = (false, eval e X.env) :: starEach [] X.env := by rfl) (hs2 : starEach [.Call (.Name "set" p2) [e] [] q2] X.env = (false, eval (.Call (.Name "set" p2) [e] [] q2) X.env) :: starEach [] X.env := by rfl) :
    PE X (.Call (.Name "sorted" p) [.Call (.Name "set" p2) [e] [] q2] [] pos) (tTm X.K (eB1 gl bSortSet) W) := by
  have in1 := pe_callTy (pos := q2) (p := p2) (cr_setM (X := X) c.calm (by have := c.hr.un; omega)) (c.hg "set" (by simpa using hg2)) hm2 (by decide +kernel) (pa_cons ha pa_nil hs) (by decide +kernel) (by decide +kernel) hs rfl
  exact PE.imp (pe_callB (cr_sortM (X := X) c.calm (by have := c.hr.un; omega)) (c.hg "sorted" (by simpa using hg)) hm (by decide +kernel) (pa_cons in1 pa_nil hs2) (by decide +kernel) (by decide +kernel) hs2 rfl) fun σ H Q ⟨ι, env, S, rp, en, h⟩ => ⟨ι, env, S, rp, en, (ends.bind h).imp fun v H1 ⟨ι1, l, S1, _, e1, r1, d1, h1⟩ => sortset_ok σ H H1 ι ι1 S1 l v Q e1 r1 d1 h1⟩
theorem de_lenset (c : Ctx X W k N vis loc gls) (ha : PE X e (tLS X.K gl W)) (hm : X.mg "len" = none) (hm2 : X.mg "set" = none) (hg : gls.contains ("len" : Str) = true := by decide +kernel) (hg2 : gls.contains ("set" : Str) = true := by decide +kernel)
    (hs : starEach [e] X.env = (false, eval e X.env) :: starEach [] X.env := by rfl) (hs2 : starEach [.Call (.Name "set" p2) [e] [] q2] X.env = (false, eval (.Call (.Name "set" p2) [e] [] q2) X.env) :: starEach [] X.env := by rfl) :
    PE X (.Call (.Name "len" p) [.Call (.Name "set" p2) [e] [] q2] [] pos) (tD X.K (eB1 gl bLenSet) W) := by
  have in1 := pe_callTy (pos := q2) (p := p2) (cr_setM (X := X) c.calm (by have := c.hr.un; omega)) (c.hg "set" (by simpa using hg2)) hm2 (by decide +kernel) (pa_cons ha pa_nil hs) (by decide +kernel) (by decide +kernel) hs rfl
  exact PE.imp (pe_callB (cr_lenM (X := X)) (c.hg "len" (by simpa using hg)) hm (by decide +kernel) (pa_cons in1 pa_nil hs2) (by decide +kernel) (by decide +kernel) hs2 rfl) fun σ H Q ⟨ι, env, S, rp, en, h⟩ => ⟨ι, env, S, rp, en, (ends.bind h).imp fun v H1 ⟨ι1, l, S1, _, e1, r1, d1, h1⟩ => lenset_ok σ H H1 ι ι1 S1 l v Q e1 r1 d1 h1⟩
end
end DL

namespace DL
open PySem PySem.Spec PyProof.Rows L2

/-! ### tables (printed by gen.py) -/
abbrev n_is_within : List Str := ["thing", "low", "high"]
noncomputable def b_is_within : DL.Env → Sto → RS :=
  (sRet (eAnd (fun env S => ((eVar 0) env S).bind (bIsi "int")) (eAnd (eNot (fun env S => ((eVar 0) env S).bind (bIsi "bool"))) (eCh (dOrd .LtE) (dOrd .LtE) (eVar 1) (eVar 0) (eVar 2)))))
noncomputable def g_is_within : Fn := gOf n_is_within (b_is_within)
abbrev n_is_name : List Str := ["thing", "sign"]
noncomputable def b_is_name : DL.Env → Sto → RS :=
  (sRet (eAnd (fun env S => ((eVar 0) env S).bind (bIsi "str")) (eAnd (eCh (dOrd .LtE) (dOrd .LtE) (eC (.int 1)) (eB1 (sRf (eVar 0)) bLen) (eC (.int 8))) (eB1 (sTm (lComp (fun env S => ((eVar 0) env S).bind gIt) (aName 1) [1] bT (eBin dIn (eVar 1) (eC (.str "abcdefghijklmnopqrstuvwxyz"))))) bAll))))
noncomputable def g_is_name : Fn := gOf n_is_name (b_is_name)
abbrev n_is_entry : List Str := ["thing"]
noncomputable def b_is_entry : DL.Env → Sto → RS :=
  (sSeq (sIf (bOr (bNot (eTru (fun env S => ((eVar 0) env S).bind (bIsi "tuple")))) (eTst (eBin dNe (eB1 (sRf (eVar 0)) bLen) (eC (.int 3))))) (sRet (eC (.bl false))) sNx)
  (sRet (eAnd (eCall 1 g_is_name (aCons (eBin dIx (eVar 0) (eC (.int 0))) aNil)) (eAnd (eCall 3 g_is_within (aCons (eBin dIx (eVar 0) (eC (.int 1))) (aCons (eC (.int 0)) (aCons (eC (.int 1000000000)) aNil)))) (eCall 3 g_is_within (aCons (eBin dIx (eVar 0) (eC (.int 2))) (aCons (eC (.int 0)) (aCons (eC (.int 1000000)) aNil))))))))
noncomputable def g_is_entry : Fn := gOf n_is_entry (b_is_entry)
abbrev n_is_table : List Str := ["thing", "entry", "k"]
noncomputable def b_is_table : DL.Env → Sto → RS :=
  (sSeq (sIf (bOr (bNot (eTru (fun env S => ((eVar 0) env S).bind (bIsi "tuple")))) (bNot (eTst (eCh (dOrd .LtE) (dOrd .LtE) (eC (.int 1)) (eB1 (sRf (eVar 0)) bLen) (eC (.int 30)))))) (sRet (eC (.bl false))) sNx)
  (sSeq (sIf (bNot (eTru (eB1 (sTm (lComp (fun env S => ((eVar 0) env S).bind gIt) (aName 1) [1] bT (eCall 1 g_is_entry (aCons (eVar 1) aNil)))) bAll))) (sRet (eC (.bl false))) sNx)
  (sRet (eB1 (sTm (lComp (iRg2 (eC (.int 1)) (eB1 (sRf (eVar 0)) bLen)) (aName 2) [2] bT (eBin (dOrd .Lt) (eSl (eBin dIx (eVar 0) (eBin dSub (eVar 2) (eC (.int 1)))) eNo (eSo (eC (.int 2)))) (eSl (eBin dIx (eVar 0) (eVar 2)) eNo (eSo (eC (.int 2))))))) bAll))))
noncomputable def g_is_table : Fn := gOf n_is_table (b_is_table)
abbrev n_need_table : List Str := ["table"]
noncomputable def b_need_table : DL.Env → Sto → RS :=
  (sIf (bNot (eTru (eCall 1 g_is_table (aCons (eVar 0) aNil)))) (sRaise "NoTable") sNx)
noncomputable def g_need_table : Fn := gOf n_need_table (b_need_table)
abbrev n_points_in : List Str := ["table", "sort", "hour", "found", "entry"]
noncomputable def b_points_in : DL.Env → Sto → RS :=
  (sSeq (sSet 3 (eC .non))
  (sSeq (sFor (fun env S => ((eVar 0) env S).bind gIt) (aName 4) (sIf (bAnd (eTst (eBin dEq (eBin dIx (eVar 4) (eC (.int 0))) (eVar 1))) (eTst (eBin (dOrd .LtE) (eBin dIx (eVar 4) (eC (.int 1))) (eVar 2)))) (sSet 3 (eBin dIx (eVar 4) (eC (.int 2)))) sNx))
  (sRet (eVar 3))))
noncomputable def g_points_in : Fn := gOf n_points_in (b_points_in)
abbrev n_parting : List Str := ["one", "other", "places", "hour", "sort", "points"]
noncomputable def b_parting : DL.Env → Sto → RS :=
  (sSeq (sExp (eCall 1 g_need_table (aCons (eVar 0) aNil)))
  (sSeq (sExp (eCall 1 g_need_table (aCons (eVar 1) aNil)))
  (sSeq (sNew 2 (eB1 (sTm (lComp (fun env S => ((eBin dAdd (eVar 0) (eVar 1)) env S).bind gIt) (aTup 3 (asCons (aName 4) (asCons (aName 3) (asCons (aName 5) asNil)))) [4, 3, 5] bT (eTup (aCons (eVar 3) (aCons (eVar 4) aNil))))) bSortSet))
  (sSeq (sFor (fun env S => ((eVar 2) env S).bind gIt) (aTup 2 (asCons (aName 3) (asCons (aName 4) asNil))) (sIf (eTst (eBin dNe (eCall 3 g_points_in (aCons (eVar 0) (aCons (eVar 4) (aCons (eVar 3) aNil)))) (eCall 3 g_points_in (aCons (eVar 1) (aCons (eVar 4) (aCons (eVar 3) aNil)))))) (sRet (eTup (aCons (eVar 3) (aCons (eVar 4) aNil)))) sNx))
  (sRet (eC .non))))))
noncomputable def g_parting : Fn := gOf n_parting (b_parting)
abbrev n_plain : List Str := ["table", "entry"]
noncomputable def b_plain : DL.Env → Sto → RS :=
  (sSeq (sExp (eCall 1 g_need_table (aCons (eVar 0) aNil)))
  (sRet (eB1 (sTm (lComp (fun env S => ((eVar 0) env S).bind gIt) (aName 1) [1] (eTst (eBin dNe (eCall 3 g_points_in (aCons (eVar 0) (aCons (eBin dIx (eVar 1) (eC (.int 0))) (aCons (eBin dSub (eBin dIx (eVar 1) (eC (.int 1))) (eC (.int 1))) aNil)))) (eBin dIx (eVar 1) (eC (.int 2))))) (eVar 1))) bTuple)))
noncomputable def g_plain : Fn := gOf n_plain (b_plain)
abbrev n_law_table : List Str := ["draws", "sorts", "found", "far", "k", "points", "hour", "key"]
noncomputable def b_law_table : DL.Env → Sto → RS :=
  (sSeq (sSet 2 eDNewT)
  (sSeq (sSet 3 (lIx (lLst (aCons (eC (.int 9)) (aCons (eC (.int 60)) (aCons (eBin dAdd (eBin dPow (eC (.int 10)) (eC (.int 9))) (eC (.int 1))) aNil)))) (eCall 2 g_law_draw (aCons (eVar 0) (aCons (eC (.int 3)) aNil)))))
  (sSeq (sFor (iRg1 (eBin dAdd (eC (.int 1)) (eCall 2 g_law_draw (aCons (eVar 0) (aCons (eC (.int 9)) aNil))))) (aName 4) (sSeq (sSet 5 (lIx (lLst (aCons (eC (.int 0)) (aCons (eBin dAdd (eC (.int 1)) (eCall 2 g_law_draw (aCons (eVar 0) (aCons (eC (.int 9)) aNil)))) (aCons (eBin dAdd (eC (.int 1)) (eCall 2 g_law_draw (aCons (eVar 0) (aCons (eC (.int 60)) aNil)))) aNil)))) (eBin dDiv (eCall 2 g_law_draw (aCons (eVar 0) (aCons (eC (.int 5)) aNil))) (eC (.int 2)))))
  (sSeq (sSet 6 (lIx (lLst (aCons (eC (.int 0)) (aCons (eCall 2 g_law_draw (aCons (eVar 0) (aCons (eC (.int 9)) aNil))) (aCons (eCall 2 g_law_draw (aCons (eVar 0) (aCons (eVar 3) aNil))) aNil)))) (eCall 2 g_law_draw (aCons (eVar 0) (aCons (eC (.int 3)) aNil)))))
  (sPut (eVar 2) (eTup (aCons (eBin dIx (eVar 1) (eCall 2 g_law_draw (aCons (eVar 0) (aCons (eB1 (sRf (eVar 1)) bLen) aNil)))) (aCons (eVar 6) aNil))) (eVar 5)))))
  (sRet (eB1 (sTm (eB1 (sTm (eLock (lockV 2) (lComp (fun env S => ((eVar 2) env S).bind gIt) (aName 7) [7] bT (eBin dAdd (eVar 7) (eTup (aCons (eBin dIx (eVar 2) (eVar 7)) aNil)))))) bSortX)) bTuple)))))
noncomputable def g_law_table : Fn := gOf n_law_table (b_law_table)
end DL

namespace DL
open PySem PySem.Spec PyProof.Rows L2

/-! ### tables -/
theorem ev6 :
  (∀ (g g' : D → D → Sto → R D) (fa fb fc : DL.Env → Sto → R D) (env : DL.Env) (S : Sto), eCh g g' fa fb fc env S = (fa env S).bind fun x S1 => (fb env S1).bind fun y S2 => (g x y S2).bind fun t S3 => match t with
    | .bl true => (fc env S3).bind fun z S4 => g' y z S4
    | .bl false => .ok (.bl false) S3
    | _ => .bad) ∧
  (∀ (env : DL.Env) (S : Sto), eNo env S = .ok none S) ∧
  (∀ (fa : DL.Env → Sto → R D) (env : DL.Env) (S : Sto), eSo fa env S = (fa env S).bind fun x S1 => match x with | .int i => .ok (some i) S1 | _ => .bad) ∧
  (∀ (fa : DL.Env → Sto → R D) (fl fh : DL.Env → Sto → R (Option Int)) (env : DL.Env) (S : Sto), eSl fa fl fh env S = (fa env S).bind fun x S1 => (fl env S1).bind fun l S2 => (fh env S2).bind fun h S3 => match x with
    | .tup xs => .ok (.tup (cutL xs l h)) S3
    | .str z => if z.length ≤ sizeLine then .ok (.str (cutS z l h)) S3 else .bad
    | .ref n => (match S3[n]? with
      | some (.lst xs) => .ok (.ref S3.length) (S3 ++ [.lst (cutL xs l h)])
      | _ => .bad)
    | _ => .bad) ∧
  (∀ (env : DL.Env) (S : Sto), bT env S = .ok true S) := ⟨fun _ _ _ _ _ _ _ => rfl, fun _ _ => rfl, fun _ _ _ => rfl, fun _ _ _ _ _ => rfl, fun _ _ => rfl⟩
theorem kits : kitB "str" "str" = some true ∧ kitB "int" "int" = some true ∧ kitB "int" "bool" = some false ∧ kitB "tuple" "tuple" = some true := by decide +kernel
theorem isStr {x : Str} {S : Sto} : bIsi "str" (.str x) S = .ok (.bl true) S := by simp [bIsi, tyN, kits, R.ofO, R.bind]
theorem isInt {i : Int} {S : Sto} : bIsi "int" (.int i) S = .ok (.bl true) S := by simp [bIsi, tyN, kits, R.ofO, R.bind]
theorem isIntB {i : Int} {S : Sto} : bIsi "bool" (.int i) S = .ok (.bl false) S := by simp [bIsi, tyN, kits, R.ofO, R.bind]
theorem isTup {xs : List D} {S : Sto} : bIsi "tuple" (.tup xs) S = .ok (.bl true) S := by simp [bIsi, tyN, kits, R.ofO, R.bind]
theorem len_str {x : Str} {S : Sto} (h : x.length ≤ 1000000) : bLen (.rf (.str x)) S = .ok (.int x.length) S := by simp [bLen, sml h]
theorem len_tup {xs : List D} {S : Sto} : bLen (.rf (.tup xs)) S = .ok (.int xs.length) S := by simp [bLen, getA, R.bind]
theorem in_abc {c : Nat} {S : Sto} (h0 : 97 ≤ c) (h1 : c ≤ 122) : dIn (.str ⟨#[c]⟩) (.str abc) S = .ok (.bl true) S := by
  have : ∀ k : Fin 26, (!(Builtin.Str.occurrences abc ⟨#[97 + (k : Nat)]⟩ 0 abc.length 1).isEmpty) = true := by decide +kernel
  have := this ⟨c - 97, by omega⟩
  simp only [show 97 + (c - 97) = c by omega] at this
  show ofB (some (!(Builtin.Str.occurrences abc ⟨#[c]⟩ 0 abc.length 1).isEmpty)) S = _
  rw [this]
  rfl
theorem bls_true : ∀ n : Nat, blsOf (List.replicate n (.bl true)) = some (List.replicate n true)
  | 0 => rfl
  | n + 1 => by rw [List.replicate_succ, blsOf, bls_true n]; rfl
theorem bls_map {α : Type} (f : α → Bool) : ∀ l : List α, blsOf (l.map fun a => .bl (f a)) = some (l.map f)
  | [] => rfl
  | a :: l => by rw [List.map_cons, blsOf, bls_map f l]; rfl
theorem all_map {α : Type} (f : α → Bool) (l : List α) (S : Sto) : bAll (.tm (l.map fun a => .bl (f a))) S = .ok (.bl (l.all f)) S := by
  simp [bAll, getB, getA, R.bind, bls_map, R.ofO]
theorem is_name_ok {x : Str} {S : Sto} (h : nmOk x) : g_is_name [.str x] S = .ok (.bl true) S := by
  have : (g_is_name [.str x] S).W fun d S' => d = .bl true ∧ S' = S := by
    unfold g_is_name gOf
    rw [R.W_ret]
    show (b_is_name [some (.str x), none] S).W _ _
    have hl := h.len
    have h1 : 1 ≤ x.length := by rw [str_len]; exact h.1
    have hc : fComp (aName 1) bT (eBin dIn (eVar 1) (eC (.str abc))) Tru [some (.str x), none] (x.cps.toList.map fun c => D.str ⟨#[c]⟩) S = .ok (x.cps.toList.map fun c => .bl true) S := by
      have := comp_pure (asg := aName 1) (ft := bT) (fe := eBin dIn (eVar 1) (eC (.str abc))) (g := Tru) (env := [some (.str x), none]) (S := S) trivial (fun c : Nat => D.str ⟨#[c]⟩) (fun _ => true) (fun _ => .bl true) x.cps.toList fun c hc => ⟨_, rfl, rfl, fun _ => ?_⟩
      · rw [this, List.filter_eq_self.mpr (fun _ _ => rfl)]
      · exact in_abc (h.2.2 c hc).1 (h.2.2 c hc).2
    simp only [b_is_name, ev1, ev2, ev3, ev4, ev5, ev6, List.getElem?_cons_zero, isStr, len_str (by omega : x.length ≤ 1000000), le_ok, decide_eq_true (by omega : (1 : Int) ≤ (x.length : Int)), decide_eq_true (by omega : (x.length : Int) ≤ 8), gIt, wipeE, List.set_cons_succ, List.set_cons_zero]
    rw [if_pos (sml (by rw [List.length_map, ← str_len]; omega)), hc]
    simp only [ev3, all_map]
    simp
  obtain ⟨a, S', e, rfl, rfl⟩ := this.ok
  exact e
theorem within_ok {i lo hi : Int} {S : Sto} : g_is_within [.int i, .int lo, .int hi] S = .ok (.bl (decide (lo ≤ i) && decide (i ≤ hi))) S := by
  have : (g_is_within [.int i, .int lo, .int hi] S).W fun d S' => d = .bl (decide (lo ≤ i) && decide (i ≤ hi)) ∧ S' = S := by
    unfold g_is_within gOf
    rw [R.W_ret]
    show (b_is_within [some (.int i), some (.int lo), some (.int hi)] S).W _ _
    simp only [b_is_within, ev1, ev2, ev3, ev4, ev5, ev6, List.getElem?_cons_zero, List.getElem?_cons_succ, isInt, isIntB, le_ok, Bool.not_false]
    by_cases h : lo ≤ i
    · simp only [decide_eq_true h, ev3, le_ok, ev1, List.getElem?_cons_succ, List.getElem?_cons_zero, Bool.true_and, and_self]
    · simp only [decide_eq_false h, ev3, Bool.false_and, and_self]
  obtain ⟨a, S', e, rfl, rfl⟩ := this.ok
  exact e

/-- an entry -/
structure En where
  s : Str
  h : Int
  p : Int
def En.k (e : En) : TKy := [.inr e.s, .inl e.h, .inl e.p]
/-- its place -/
def En.c (e : En) : TKy := [.inr e.s, .inl e.h]
def En.ok (e : En) : Prop := nmOk e.s ∧ 0 ≤ e.h ∧ e.h ≤ 1000000000 ∧ 0 ≤ e.p ∧ e.p ≤ 1000000
abbrev enD (e : En) : D := tuD e.k
abbrev tbD (T : List En) : D := .tup (T.map enD)
/-- a table -/
structure Tb (T : List En) : Prop where
  lo : 1 ≤ T.length
  hi : T.length ≤ 30
  ok : ∀ e ∈ T, e.ok
  inc : T.Pairwise fun a b => DL.tLt a.c b.c = true
theorem En.kOk {e : En} (h : e.ok) : tOk e.k = true := by simp [tOk, En.k, DL.kOk, h.1.ok]
theorem En.cOk {e : En} (h : e.ok) : tOk e.c = true := by simp [tOk, En.c, DL.kOk, h.1.ok]
theorem c_cmp (a b : En) : DL.tCmp a.c b.c = true := by
  simp only [En.c, DL.tCmp, kSame]
  split
  · split <;> rfl
  · rfl
theorem cut2 (e : En) : cutL (e.k.map kD) none (some 2) = e.c.map kD := by
  simp [cutL, HT.sIx, En.k, En.c]
theorem entry_ok {e : En} {S : Sto} (h : e.ok) : g_is_entry [enD e] S = .ok (.bl true) S := by
  have : (g_is_entry [enD e] S).W fun d S' => d = .bl true ∧ S' = S := by
    unfold g_is_entry gOf
    rw [R.W_ret]
    show (b_is_entry [some (.tup [.str e.s, .int e.h, .int e.p])] S).W _ _
    have i0 : dIx (.tup [.str e.s, .int e.h, .int e.p]) (.int 0) S = .ok (.str e.s) S := rfl
    have i1 : dIx (.tup [.str e.s, .int e.h, .int e.p]) (.int 1) S = .ok (.int e.h) S := rfl
    have i2 : dIx (.tup [.str e.s, .int e.h, .int e.p]) (.int 2) S = .ok (.int e.p) S := rfl
    simp only [b_is_entry, ev1, ev2, ev3, ev4, ev5, ev6, List.getElem?_cons_zero, List.getElem?_cons_succ, isTup, len_tup, DL.ne_int, List.length_cons, List.length_nil, Bool.not_true, i0, i1, i2, is_name_ok h.1, within_ok, if_true, decide_eq_true h.2.1, decide_eq_true h.2.2.1, decide_eq_true h.2.2.2.1, decide_eq_true h.2.2.2.2, Bool.and_self, and_self,
      show (!decide (((0 + 1 + 1 + 1 : Nat) : Int) = 3)) = false from rfl]
  obtain ⟨a, S', e, rfl, rfl⟩ := this.ok
  exact e
theorem table_ok {T : List En} {S : Sto} (h : Tb T) : g_is_table [tbD T] S = .ok (.bl true) S := by
  have : (g_is_table [tbD T] S).W fun d S' => d = .bl true ∧ S' = S := by
    unfold g_is_table gOf
    rw [R.W_ret]
    show (b_is_table [some (tbD T), none, none] S).W _ _
    have lo := h.lo
    have hi := h.hi
    have c1 : ∀ env : DL.Env, env.length = 3 → fComp (aName 1) bT (eCall 1 g_is_entry (aCons (eVar 1) aNil)) Tru env (T.map enD) S = .ok (T.map fun _ => .bl true) S := fun env he => by
      have := comp_pure (asg := aName 1) (ft := bT) (fe := eCall 1 g_is_entry (aCons (eVar 1) aNil)) (g := Tru) (env := env) (S := S) trivial enD (fun _ => true) (fun _ => .bl true) T fun e m => ⟨_, rfl, rfl, fun _ => ?_⟩
      · rw [this, List.filter_eq_self.mpr (fun _ _ => rfl)]
      · have h1 : (env.set 1 (some (enD e)))[1]? = some (some (enD e)) := List.getElem?_set_self (by omega)
        simp only [ev1, h1, R.bind, List.length_cons, List.length_nil, if_true, entry_ok (h.ok e m)]
    simp only [b_is_table, ev1, ev2, ev3, ev4, ev5, ev6, List.getElem?_cons_zero, List.getElem?_cons_succ, isTup, len_tup, List.length_map, le_ok, decide_eq_true (by omega : (1 : Int) ≤ (T.length : Int)), decide_eq_true (by omega : (T.length : Int) ≤ 30), Bool.not_true, gIt, wipeE, List.set_cons_succ, List.set_cons_zero]
    rw [if_pos (sml (by omega)), c1 _ rfl]
    simp only [ev3, ev5, all_map, List.all_eq_true.mpr (fun _ _ => rfl), Bool.not_true, List.set_cons_succ, List.set_cons_zero, List.length_map]
    have c2 : fComp (aName 2) bT (eBin (dOrd .Lt) (eSl (eBin dIx (eVar 0) (eBin dSub (eVar 2) (eC (.int 1)))) eNo (eSo (eC (.int 2)))) (eSl (eBin dIx (eVar 0) (eVar 2)) eNo (eSo (eC (.int 2))))) Tru [some (tbD T), none, none] (rngL 1 (T.length : Nat)) S = .ok ((List.range ((T.length : Int) - 1).toNat).map fun _ => .bl true) S := by
      have := comp_pure (asg := aName 2) (ft := bT) (fe := eBin (dOrd .Lt) (eSl (eBin dIx (eVar 0) (eBin dSub (eVar 2) (eC (.int 1)))) eNo (eSo (eC (.int 2)))) (eSl (eBin dIx (eVar 0) (eVar 2)) eNo (eSo (eC (.int 2))))) (g := Tru) (env := [some (tbD T), none, none]) (S := S) trivial (fun i : Nat => D.int (1 + (i : Nat))) (fun _ => true) (fun _ => .bl true) (List.range ((T.length : Int) - 1).toNat) fun i m => ⟨_, rfl, rfl, fun _ => ?_⟩
      · rw [show rngL 1 (T.length : Nat) = (List.range ((T.length : Int) - 1).toNat).map fun i : Nat => D.int (1 + (i : Nat)) from rfl, this, List.filter_eq_self.mpr (fun _ _ => rfl)]
      · have hi1 : i + 1 < T.length := by have := List.mem_range.mp m; omega
        have x1 : dIx (tbD T) (.int (i : Nat)) S = .ok (enD T[i]) S := by
          show R.ofO (L2.atI (T.map enD) (i : Nat)) S = _
          rw [atI_nat' (by rw [List.length_map]; omega), List.getElem_map]
          rfl
        have x2 : dIx (tbD T) (.int ((i + 1 : Nat) : Int)) S = .ok (enD T[i + 1]) S := by
          show R.ofO (L2.atI (T.map enD) ((i + 1 : Nat) : Int)) S = _
          rw [atI_nat' (by rw [List.length_map]; omega), List.getElem_map]
          rfl
        have lt := List.pairwise_iff_getElem.mp h.inc i (i + 1) (by omega) hi1 (by omega)
        have o1 := h.ok _ (List.getElem_mem (show i < T.length by omega))
        have o2 := h.ok _ (List.getElem_mem hi1)
        have e1 : (1 + (i : Int) - 1) = ((i : Nat) : Int) := by omega
        have e2 : (1 + (i : Int)) = ((i + 1 : Nat) : Int) := by omega
        simp only [ev1, ev6, aName, List.set_cons_succ, List.set_cons_zero, List.getElem?_cons_zero, List.getElem?_cons_succ, R.bind, sub_ok, e1, x1]
        rw [e2]
        simp only [x2, cut2]
        rw [dOrd_t (xs := T[i].c) (ys := T[i + 1].c) (En.cOk o1) (En.cOk o2) (c_cmp _ _), lt]
    simp only [List.getElem?_cons_zero, ev3, len_tup, List.length_map]
    rw [rOk_nat (show T.length ≤ 1000000 by omega), show rOk 1 = true by decide]
    simp only [Bool.and_self, if_true, ev3]
    rw [if_pos (sml (by unfold rngL; rw [List.length_map, List.length_range]; omega)), c2]
    simp only [ev3, all_map, List.all_eq_true.mpr (fun _ _ => rfl), and_self]
  obtain ⟨a, S', e, rfl, rfl⟩ := this.ok
  exact e
end DL

namespace DL
open PySem PySem.Spec PyProof.Rows L2

theorem need_ok {T : List En} {S : Sto} (h : Tb T) : g_need_table [tbD T] S = .ok .non S := by
  have : (g_need_table [tbD T] S).W fun d S' => d = .non ∧ S' = S := by
    unfold g_need_table gOf
    rw [R.W_ret]
    show (b_need_table [some (tbD T)] S).W _ _
    simp only [b_need_table, ev1, ev2, ev3, ev4, ev5, ev6, List.getElem?_cons_zero, List.length_cons, List.length_nil, if_true, table_ok h, Bool.not_true, and_self]
  obtain ⟨a, S', e, rfl, rfl⟩ := this.ok
  exact e
/-! ### the points of a sort at an hour -/
def oI : Option Int → D
  | none => .non
  | some p => .int p
def pinF (s : Str) (h : Int) (o : Option Int) (e : En) : Option Int := if e.s = s ∧ e.h ≤ h then some e.p else o
def pin (T : List En) (s : Str) (h : Int) : Option Int := T.foldl (pinF s h) none
theorem points_ok {T : List En} {S : Sto} {s : Str} {h : Int} (hT : ∀ e ∈ T, e.ok) (hs : PyData.strOk s = true) : g_points_in [tbD T, .str s, .int h] S = .ok (oI (pin T s h)) S := by
  have : (g_points_in [tbD T, .str s, .int h] S).W fun d S' => d = oI (pin T s h) ∧ S' = S := by
    unfold g_points_in gOf
    rw [R.W_ret]
    show (b_points_in [some (tbD T), some (.str s), some (.int h), none, none] S).W _ _
    simp only [b_points_in, ev1, ev2, ev3, List.getElem?_cons_zero, List.getElem?_cons_succ, List.set_cons_succ, List.set_cons_zero, gIt]
    refine W_for (fun i e S' => S' = S ∧ ∃ x4, e = [some (tbD T), some (.str s), some (.int h), some (oI ((T.take i).foldl (pinF s h) none)), x4]) _ (fun _ _ _ _ => trivial) ?_ ?_ ⟨rfl, _, rfl⟩
    · rintro i x env S' hx ⟨rfl, x4, rfl⟩
      rw [List.getElem?_map] at hx
      obtain ⟨e, he, rfl⟩ := Option.map_eq_some_iff.mp hx
      have hi : i < T.length := (List.getElem?_eq_some_iff.mp he).1
      have ht : T.take (i + 1) = T.take i ++ [e] := by rw [List.take_add_one, he]; rfl
      have ho := hT e (List.mem_of_getElem? he)
      refine ⟨_, rfl, ?_⟩
      have i0 : dIx (enD e) (.int 0) S' = .ok (.str e.s) S' := rfl
      have i1 : dIx (enD e) (.int 1) S' = .ok (.int e.h) S' := rfl
      have i2 : dIx (enD e) (.int 2) S' = .ok (.int e.p) S' := rfl
      have q1 : dEq (.str e.s) (.str s) S' = .ok (.bl (decide (e.s = s))) S' := eq_str ho.1.ok hs
      have q2 : dOrd .LtE (.int e.h) (.int h) S' = .ok (.bl (decide (e.h ≤ h))) S' := le_ok
      rw [ht, List.foldl_append]
      by_cases h1 : e.s = s
      · rw [decide_eq_true h1] at q1
        subst h1
        by_cases h2 : e.h ≤ h
        · rw [decide_eq_true h2] at q2
          simp only [ev1, ev2, ev3, aName, List.getElem?_cons_zero, List.getElem?_cons_succ, List.set_cons_succ, List.set_cons_zero, i0, i1, i2, q1, q2, List.foldl_cons, List.foldl_nil, pinF, h2, and_self, if_true]
          exact ⟨trivial, _, rfl⟩
        · rw [decide_eq_false h2] at q2
          simp only [ev1, ev2, ev3, aName, List.getElem?_cons_zero, List.getElem?_cons_succ, List.set_cons_succ, List.set_cons_zero, i0, i1, i2, q1, q2, List.foldl_cons, List.foldl_nil, pinF, h2, and_false, if_false]
          exact ⟨trivial, _, rfl⟩
      · rw [decide_eq_false h1] at q1
        simp only [ev1, ev2, ev3, aName, List.getElem?_cons_zero, List.getElem?_cons_succ, List.set_cons_succ, List.set_cons_zero, i0, q1, List.foldl_cons, List.foldl_nil, pinF, h1, false_and, if_false]
        exact ⟨trivial, _, rfl⟩
    · rintro env S' ⟨rfl, x4, rfl⟩
      simp only [ev1, ev2, ev3, List.getElem?_cons_zero, List.getElem?_cons_succ, List.length_map, List.take_length]
      exact ⟨rfl, trivial⟩
  obtain ⟨a, S', e, rfl, rfl⟩ := this.ok
  exact e
theorem eqB_oi (a b : Option Int) (S : Sto) : dEqB S (oI a) (oI b) = some (decide (a = b)) := by
  cases a <;> cases b <;> simp [dEqB, oI, toPy, SeqAt.shaped, PyData.canLay0, PyData.depth, PyData.eqv]
  exact Bool.beq_eq_decide_eq _ _
theorem ne_oi {a b : Option Int} {S : Sto} : dNe (oI a) (oI b) S = .ok (.bl (!decide (a = b))) S := by
  unfold dNe
  rw [eqB_oi]
  rfl
theorem ne_oi' {a : Option Int} {p : Int} {S : Sto} : dNe (oI a) (.int p) S = .ok (.bl (!decide (a = some p))) S := ne_oi (b := some p)
end DL

namespace DL
open PySem PySem.Spec PyProof.Rows L2

def pl (T : List En) : List En := T.filter fun e => !decide (pin T e.s (e.h - 1) = some e.p)
theorem plain_ok {T : List En} {S : Sto} (h : Tb T) : g_plain [tbD T] S = .ok (tbD (pl T)) S := by
  have : (g_plain [tbD T] S).W fun d S' => d = tbD (pl T) ∧ S' = S := by
    unfold g_plain gOf
    rw [R.W_ret]
    show (b_plain [some (tbD T), none] S).W _ _
    have hi := h.hi
    have c1 : fComp (aName 1) (eTst (eBin dNe (eCall 3 g_points_in (aCons (eVar 0) (aCons (eBin dIx (eVar 1) (eC (.int 0))) (aCons (eBin dSub (eBin dIx (eVar 1) (eC (.int 1))) (eC (.int 1))) aNil)))) (eBin dIx (eVar 1) (eC (.int 2))))) (eVar 1) Tru [some (tbD T), none] (T.map enD) S = .ok ((pl T).map enD) S := by
      refine comp_pure trivial enD (fun e => !decide (pin T e.s (e.h - 1) = some e.p)) enD T fun e m => ⟨_, rfl, ?_, fun _ => rfl⟩
      have i0 : dIx (enD e) (.int 0) S = .ok (.str e.s) S := rfl
      have i1 : dIx (enD e) (.int 1) S = .ok (.int e.h) S := rfl
      have i2 : dIx (enD e) (.int 2) S = .ok (.int e.p) S := rfl
      simp only [ev1, aName, List.set_cons_succ, List.set_cons_zero, List.getElem?_cons_zero, List.getElem?_cons_succ, R.bind, i0, i1, i2, sub_ok, List.length_cons, List.length_nil, if_true, points_ok h.ok (h.ok e m).1.ok, ne_oi']
    simp only [b_plain, ev1, ev2, ev3, List.getElem?_cons_zero, List.getElem?_cons_succ, List.length_cons, List.length_nil, if_true, need_ok h, gIt, wipeE, List.set_cons_succ, List.set_cons_zero]
    rw [if_pos (sml (by rw [List.length_map]; omega)), c1]
    simp only [ev3, bTuple, getA, and_self]
  obtain ⟨a, S', e, rfl, rfl⟩ := this.ok
  exact e
/-! ### where two tables part -/
def En.q (e : En) : TKy := [.inl e.h, .inr e.s]
noncomputable def places (T U : List En) : List TKy := (dd ((T ++ U).map En.q)).mergeSort DL.tLe
def apart (T U : List En) : TKy → Bool
  | [.inl h, .inr s] => !decide (pin T s h = pin U s h)
  | _ => false
def kO : Option TKy → D
  | none => .non
  | some k => tuD k
theorem q_rows (T : List En) : Rows (T.map En.q) := by
  refine ⟨fun x hx y hy => ?_, fun x hx => ?_, fun x hx y hy => ?_⟩
  · obtain ⟨a, _, rfl⟩ := List.mem_map.mp hx
    obtain ⟨b, _, rfl⟩ := List.mem_map.mp hy
    simp only [En.q, DL.tCmp, kSame]
    split
    · split <;> rfl
    · rfl
  · obtain ⟨a, _, rfl⟩ := List.mem_map.mp hx
    simp [En.q]
  · obtain ⟨a, _, rfl⟩ := List.mem_map.mp hx
    obtain ⟨b, _, rfl⟩ := List.mem_map.mp hy
    rfl
theorem place_mem {T U : List En} {k : TKy} : k ∈ places T U ↔ ∃ e ∈ T ++ U, e.q = k := by
  unfold places
  rw [(List.mergeSort_perm _ _).mem_iff, dd_mem, List.mem_map]
theorem parting_ok {T U : List En} {S : Sto} (h : Tb T) (h' : Tb U) : (g_parting [tbD T, tbD U] S).W fun d S' => d = kO ((places T U).find? (apart T U)) ∧ Px S S' := by
  unfold g_parting gOf
  rw [R.W_ret]
  show (b_parting [some (tbD T), some (tbD U), none, none, none, none] S).W _ _
  have l1 := h.hi
  have l2 := h'.hi
  have cat : ∀ S', dAdd (tbD T) (tbD U) S' = .ok (tbD (T ++ U)) S' := fun S' => by
    show (if (T.map enD).length + (U.map enD).length ≤ sizeLine then R.ok (D.tup (T.map enD ++ U.map enD)) S' else .bad) = _
    rw [if_pos (by rw [List.length_map, List.length_map, sizeLine_eq]; omega), ← List.map_append]
  have c1 : fComp (aTup 3 (asCons (aName 4) (asCons (aName 3) (asCons (aName 5) asNil)))) bT (eTup (aCons (eVar 3) (aCons (eVar 4) aNil))) Tru [some (tbD T), some (tbD U), none, none, none, none] ((T ++ U).map enD) S = .ok (((T ++ U).map En.q).map tuD) S := by
    have := comp_pure (asg := aTup 3 (asCons (aName 4) (asCons (aName 3) (asCons (aName 5) asNil)))) (ft := bT) (fe := eTup (aCons (eVar 3) (aCons (eVar 4) aNil))) (g := Tru) (env := [some (tbD T), some (tbD U), none, none, none, none]) (S := S) trivial enD (fun _ => true) (fun e => tuD e.q) (T ++ U) fun e m => ⟨_, rfl, rfl, fun _ => ?_⟩
    · rw [this, List.filter_eq_self.mpr (fun _ _ => rfl), List.map_map]
      rfl
    · rfl
  simp only [b_parting, ev1, ev2, ev3, List.getElem?_cons_zero, List.getElem?_cons_succ, List.length_cons, List.length_nil, if_true, need_ok h, need_ok h', cat, gIt, wipeE, List.set_cons_succ, List.set_cons_zero]
  rw [if_pos (sml (by rw [List.length_map, List.length_append]; omega)), c1]
  have ss : bSortSet (.tm (((T ++ U).map En.q).map tuD)) S = .ok ((places T U).map tuD) S := by
    unfold bSortSet
    simp only [getB, getA, R.bind, tups_tuD]
    rw [if_pos ⟨by rw [List.length_map, List.length_append]; omega, q_rows _⟩]
    rfl
  simp only [ev3, ss, at_snoc]
  refine W_for (fun i e S' => S' = S ++ [.lst ((places T U).map tuD)] ∧ (∀ k ∈ (places T U).take i, apart T U k = false) ∧ ∃ x3 x4 x5, e = [some (tbD T), some (tbD U), some (.ref S.length), x3, x4, x5]) _ ?_ ?_ ?_ ⟨rfl, by simp, _, _, _, rfl⟩
  · rintro i env S' ⟨rfl, _⟩
    exact at_snoc
  · rintro i x env S' hx ⟨rfl, hb, x3, x4, x5, rfl⟩
    rw [List.getElem?_map] at hx
    obtain ⟨k, hk, rfl⟩ := Option.map_eq_some_iff.mp hx
    have ht : (places T U).take (i + 1) = (places T U).take i ++ [k] := by rw [List.take_add_one, hk]; rfl
    obtain ⟨e, he, rfl⟩ := place_mem.mp (List.mem_of_getElem? hk)
    have hso : PyData.strOk e.s = true := by
      rcases List.mem_append.mp he with m | m
      · exact (h.ok e m).1.ok
      · exact (h'.ok e m).1.ok
    refine ⟨_, rfl, ?_⟩
    have pT := fun S' => points_ok (S := S') (h := e.h) h.ok hso
    have pU := fun S' => points_ok (S := S') (h := e.h) h'.ok hso
    have ap : apart T U e.q = !decide (pin T e.s e.h = pin U e.s e.h) := rfl
    show ((sIf _ _ sNx) [some (tbD T), some (tbD U), some (.ref S.length), some (.int e.h), some (.str e.s), x5] _).W _ _
    simp only [ev1, ev2, ev3, List.getElem?_cons_zero, List.getElem?_cons_succ, List.length_cons, List.length_nil, if_true, pT, pU, ne_oi]
    rw [← ap]
    cases q : apart T U e.q with
    | true =>
      simp only [ev3, ev1, List.getElem?_cons_zero, List.getElem?_cons_succ, List.length_cons, List.length_nil, sml (by decide : 0 + 1 + 1 ≤ 1000000), if_true]
      have : (places T U).find? (apart T U) = some e.q := by
        have hi : i < (places T U).length := (List.getElem?_eq_some_iff.mp hk).1
        rw [← List.take_append_drop i (places T U), List.find?_append, List.find?_eq_none.mpr (fun k m => by rw [hb k m]; simp), List.drop_eq_getElem_cons hi, List.find?_cons_of_pos (by rw [(List.getElem?_eq_some_iff.mp hk).2]; exact q), (List.getElem?_eq_some_iff.mp hk).2]
        rfl
      rw [this]
      exact ⟨rfl, Px.snoc _ _⟩
    | false =>
      refine ⟨rfl, fun k m => ?_, _, _, _, rfl⟩
      rw [ht] at m
      rcases List.mem_append.mp m with m | m
      · exact hb k m
      · rw [List.mem_singleton.mp m]
        exact q
  · rintro env S' ⟨rfl, hb, x3, x4, x5, rfl⟩
    rw [List.length_map, List.take_length] at hb
    rw [List.find?_eq_none.mpr (fun k m => by rw [hb k m]; simp)]
    exact ⟨rfl, Px.snoc _ _⟩
end DL

namespace DL
open PySem PySem.Spec PyProof.Rows L2

/-! ### tables, in plain words -/
abbrev Inc (T : List En) : Prop := T.Pairwise fun a b => DL.tLt a.c b.c = true
theorem c_lt {a b : En} (h : DL.tLt a.c b.c = true) (e : a.s = b.s) : a.h < b.h := by
  simp only [En.c, DL.tLt, e, if_true] at h
  split at h
  · cases h
  · exact of_decide_eq_true h
theorem fold_or (s : Str) (h : Int) : ∀ (T : List En) (o : Option Int), T.foldl (pinF s h) o = (T.foldl (pinF s h) none).or o
  | [], o => rfl
  | a :: T, o => by
    rw [List.foldl_cons, List.foldl_cons, fold_or s h T (pinF s h o a), fold_or s h T (pinF s h none a)]
    cases T.foldl (pinF s h) none with
    | some p => rfl
    | none =>
      simp only [Option.none_or, pinF]
      split <;> rfl
theorem pin_cons (a : En) (T : List En) (s : Str) (h : Int) : pin (a :: T) s h = (pin T s h).or (if a.s = s ∧ a.h ≤ h then some a.p else none) := by
  show (a :: T).foldl (pinF s h) none = _
  rw [List.foldl_cons, fold_or]
  rfl
theorem pin_none {s : Str} {h : Int} : ∀ {T : List En}, pin T s h = none → ∀ e ∈ T, ¬ (e.s = s ∧ e.h ≤ h)
  | [], _, e, m => (nomatch m)
  | a :: T, q, e, m => by
    rw [pin_cons] at q
    cases q1 : pin T s h with
    | some p => rw [q1] at q; cases q
    | none =>
      rw [q1, Option.none_or] at q
      rcases List.mem_cons.mp m with rfl | m
      · intro z
        rw [if_pos z] at q
        cases q
      · exact pin_none q1 e m
theorem pin_some {s : Str} {h p : Int} : ∀ {T : List En}, Inc T → pin T s h = some p → ∃ e ∈ T, e.s = s ∧ e.h ≤ h ∧ e.p = p ∧ ∀ e' ∈ T, e'.s = s → e'.h ≤ h → e'.h ≤ e.h
  | [], _, q => by cases q
  | a :: T, inc, q => by
    have hi := List.pairwise_cons.mp inc
    rw [pin_cons] at q
    cases q1 : pin T s h with
    | some p' =>
      rw [q1] at q
      cases q
      obtain ⟨e, m, h1, h2, h3, h4⟩ := pin_some hi.2 q1
      refine ⟨e, List.mem_cons_of_mem _ m, h1, h2, h3, fun e' m' s' h' => ?_⟩
      rcases List.mem_cons.mp m' with rfl | m'
      · exact Int.le_of_lt (c_lt (hi.1 e m) (s'.trans h1.symm))
      · exact h4 e' m' s' h'
    | none =>
      rw [q1, Option.none_or] at q
      split at q
      · rename_i hc
        cases q
        refine ⟨a, List.mem_cons_self, hc.1, hc.2, rfl, fun e' m' s' h' => ?_⟩
        rcases List.mem_cons.mp m' with rfl | m'
        · exact Int.le_refl _
        · exact absurd ⟨s', h'⟩ (pin_none q1 e' m')
      · cases q
theorem same_c {T : List En} (inc : Inc T) {a b : En} (ha : a ∈ T) (hb : b ∈ T) (hs : a.s = b.s) (hh : a.h = b.h) : a = b := by
  obtain ⟨i, hi, rfl⟩ := List.getElem_of_mem ha
  obtain ⟨j, hj, rfl⟩ := List.getElem_of_mem hb
  rcases Nat.lt_trichotomy i j with z | z | z
  · have := c_lt (List.pairwise_iff_getElem.mp inc i j hi hj z) hs
    omega
  · subst z; rfl
  · have := c_lt (List.pairwise_iff_getElem.mp inc j i hj hi z) hs.symm
    omega
theorem pin_max {T : List En} (inc : Inc T) {e : En} {h : Int} (m : e ∈ T) (hh : e.h ≤ h) (mx : ∀ e' ∈ T, e'.s = e.s → e'.h ≤ h → e'.h ≤ e.h) : pin T e.s h = some e.p := by
  cases q : pin T e.s h with
  | none => exact absurd ⟨rfl, hh⟩ (pin_none q e m)
  | some p =>
    obtain ⟨e1, m1, s1, h1, p1, x1⟩ := pin_some inc q
    have a := mx e1 m1 s1 h1
    have b := x1 e m rfl hh
    have := same_c inc m1 m s1 (by omega)
    rw [← p1, this]
theorem pin_at {T : List En} (inc : Inc T) {e : En} (m : e ∈ T) : pin T e.s e.h = some e.p := pin_max inc m (Int.le_refl _) fun _ _ _ z => z
theorem pin_still {T : List En} (inc : Inc T) {s : Str} {h h' : Int} (le : h' ≤ h) (no : ∀ e ∈ T, e.s = s → e.h ≤ h → e.h ≤ h') : pin T s h = pin T s h' := by
  cases q : pin T s h with
  | none =>
    cases q2 : pin T s h' with
    | none => rfl
    | some p =>
      obtain ⟨e, m, h1, h2, _⟩ := pin_some inc q2
      exact absurd ⟨h1, Int.le_trans h2 le⟩ (pin_none q e m)
  | some p =>
    obtain ⟨e, m, h1, h2, h3, h4⟩ := pin_some inc q
    subst h1
    rw [pin_max inc m (no e m rfl h2) fun e' m' s' l => h4 e' m' s' (Int.le_trans l le), h3]
theorem pl_mem {T : List En} {e : En} : e ∈ pl T ↔ e ∈ T ∧ pin T e.s (e.h - 1) ≠ some e.p := by
  unfold pl
  rw [List.mem_filter]
  simp
theorem pl_inc {T : List En} (inc : Inc T) : Inc (pl T) := List.Pairwise.filter _ inc
theorem pl_tb {T : List En} (h : Tb T) : Tb (pl T) := by
  refine ⟨?_, Nat.le_trans (List.length_filter_le ..) h.hi, fun e m => h.ok e (pl_mem.mp m).1, pl_inc h.inc⟩
  have lo := h.lo
  cases q : T with
  | nil => rw [q] at lo; simp at lo
  | cons a r =>
    have inc := h.inc
    rw [q] at inc
    have : a ∈ pl (a :: r) := by
      refine pl_mem.mpr ⟨List.mem_cons_self, fun z => ?_⟩
      obtain ⟨e, m, h1, h2, _⟩ := pin_some inc z
      rcases List.mem_cons.mp m with rfl | m
      · omega
      · have := c_lt ((List.pairwise_cons.mp inc).1 e m) h1.symm
        omega
    exact List.length_pos_of_mem this
theorem pl_pin {T : List En} (h : Tb T) (s : Str) : ∀ (n : Nat) (x : Int), (x + 1).toNat ≤ n → pin (pl T) s x = pin T s x := by
  intro n
  induction n with
  | zero =>
    intro x hx
    have no : ∀ U : List En, (∀ e ∈ U, e ∈ T) → Inc U → pin U s x = none := fun U hU iU => by
      cases q : pin U s x with
      | none => rfl
      | some p =>
        obtain ⟨e, m, h1, h2, _⟩ := pin_some iU q
        have := (h.ok e (hU e m)).2.1
        omega
    rw [no T (fun _ m => m) h.inc, no (pl T) (fun _ m => (pl_mem.mp m).1) (pl_inc h.inc)]
  | succ n ih =>
    intro x hx
    cases q : pin T s x with
    | none =>
      cases q2 : pin (pl T) s x with
      | none => rfl
      | some p =>
        obtain ⟨e, m, h1, h2, _⟩ := pin_some (pl_inc h.inc) q2
        exact absurd ⟨h1, h2⟩ (pin_none q e (pl_mem.mp m).1)
    | some p =>
      obtain ⟨e, m, h1, h2, h3, h4⟩ := pin_some h.inc q
      subst h1
      by_cases hp : pin T e.s (e.h - 1) = some e.p
      · have e0 := (h.ok e m).2.1
        have not : e ∉ pl T := fun z => (pl_mem.mp z).2 hp
        have st : pin (pl T) e.s x = pin (pl T) e.s (e.h - 1) := pin_still (pl_inc h.inc) (by omega) fun e' m' s' l => by
          have a := h4 e' (pl_mem.mp m').1 s' l
          by_cases z : e'.h = e.h
          · have := same_c h.inc (pl_mem.mp m').1 m s' z
            rw [this] at m'
            exact absurd m' not
          · omega
        rw [st, ih (e.h - 1) (by omega), hp, h3]
      · rw [pin_max (pl_inc h.inc) (pl_mem.mpr ⟨m, hp⟩) h2 fun e' m' s' l => h4 e' (pl_mem.mp m').1 s' l, h3]
/-- the points of both are alike at all hours -/
def Alike (T U : List En) : Prop := ∀ s h, pin T s h = pin U s h
theorem alike_pl {T : List En} (h : Tb T) : Alike (pl T) T := fun s x => pl_pin h s _ x (Nat.le_refl _)
theorem pl_char {T : List En} (inc : Inc T) {e : En} : e ∈ pl T ↔ pin T e.s e.h = some e.p ∧ pin T e.s (e.h - 1) ≠ some e.p := by
  refine ⟨fun m => ⟨pin_at inc (pl_mem.mp m).1, (pl_mem.mp m).2⟩, fun ⟨h1, h2⟩ => ?_⟩
  obtain ⟨e1, m1, s1, l1, p1, x1⟩ := pin_some inc h1
  have : e1.h = e.h := by
    by_cases z : e1.h = e.h
    · exact z
    · refine absurd ?_ h2
      rw [← s1, ← p1]
      exact pin_max inc m1 (by omega) fun e' m' s' l => x1 e' m' (s'.trans s1) (by omega)
  have : e1 = e := by
    cases e1; cases e
    simp_all
  exact pl_mem.mpr ⟨this ▸ m1, h2⟩
theorem inc_nodup {T : List En} (inc : Inc T) : T.Nodup := List.Pairwise.imp (fun {a b} h e => by
  subst e
  rw [tLt_irrefl] at h
  cases h) inc
theorem inc_eq {T U : List En} (h1 : Inc T) (h2 : Inc U) (h : ∀ e, e ∈ T ↔ e ∈ U) : T = U := by
  refine List.Perm.eq_of_pairwise (le := fun a b => DL.tLt a.c b.c = true) (fun a b _ _ x y => ?_) h1 h2 ((List.perm_ext_iff_of_nodup (inc_nodup h1) (inc_nodup h2)).mpr h)
  have := tLt_asymm x
  rw [y] at this
  cases this
theorem pl_eq {T U : List En} (h1 : Inc T) (h2 : Inc U) (h : Alike T U) : pl T = pl U := inc_eq (pl_inc h1) (pl_inc h2) fun e => by rw [pl_char h1, pl_char h2, h, h]
theorem pl_pl {T : List En} (h : Tb T) : pl (pl T) = pl T := pl_eq (pl_inc h.inc) h.inc (alike_pl h)
theorem pl_eq_iff {T U : List En} (h1 : Tb T) (h2 : Tb U) : pl T = pl U ↔ Alike T U := by
  refine ⟨fun e s h => ?_, pl_eq h1.inc h2.inc⟩
  rw [← alike_pl h1 s h, e, alike_pl h2 s h]
end DL

namespace DL
open PySem PySem.Spec PyProof.Rows L2

theorem apart_q (T U : List En) (e : En) : apart T U e.q = !decide (pin T e.s e.h = pin U e.s e.h) := rfl
/-- the last hour of a sort that is no later -/
theorem last_of (s : Str) (h : Int) : ∀ W : List En, (∀ e ∈ W, ¬ (e.s = s ∧ e.h ≤ h)) ∨ ∃ e ∈ W, e.s = s ∧ e.h ≤ h ∧ ∀ e' ∈ W, e'.s = s → e'.h ≤ h → e'.h ≤ e.h
  | [] => .inl fun e m => (nomatch m)
  | a :: W => by
    by_cases ha : a.s = s ∧ a.h ≤ h
    · rcases last_of s h W with n | ⟨e, m, h1, h2, h3⟩
      · refine .inr ⟨a, List.mem_cons_self, ha.1, ha.2, fun e' m' s' l => ?_⟩
        rcases List.mem_cons.mp m' with rfl | m'
        · exact Int.le_refl _
        · exact absurd ⟨s', l⟩ (n e' m')
      · by_cases z : a.h ≤ e.h
        · refine .inr ⟨e, List.mem_cons_of_mem _ m, h1, h2, fun e' m' s' l => ?_⟩
          rcases List.mem_cons.mp m' with rfl | m'
          · exact z
          · exact h3 e' m' s' l
        · refine .inr ⟨a, List.mem_cons_self, ha.1, ha.2, fun e' m' s' l => ?_⟩
          rcases List.mem_cons.mp m' with rfl | m'
          · exact Int.le_refl _
          · have := h3 e' m' s' l
            omega
    · rcases last_of s h W with n | ⟨e, m, h1, h2, h3⟩
      · refine .inl fun e m => ?_
        rcases List.mem_cons.mp m with rfl | m
        · exact ha
        · exact n e m
      · refine .inr ⟨e, List.mem_cons_of_mem _ m, h1, h2, fun e' m' s' l => ?_⟩
        rcases List.mem_cons.mp m' with rfl | m'
        · exact absurd ⟨s', l⟩ ha
        · exact h3 e' m' s' l
theorem pin_no {T : List En} {s : Str} {h : Int} (inc : Inc T) (no : ∀ e ∈ T, ¬ (e.s = s ∧ e.h ≤ h)) : pin T s h = none := by
  cases q : pin T s h with
  | none => rfl
  | some p =>
    obtain ⟨e, m, h1, h2, _⟩ := pin_some inc q
    exact absurd ⟨h1, h2⟩ (no e m)
theorem alike_iff {T U : List En} (h1 : Inc T) (h2 : Inc U) : (places T U).find? (apart T U) = none ↔ Alike T U := by
  rw [List.find?_eq_none]
  refine ⟨fun al s h => ?_, fun al k m => ?_⟩
  · rcases last_of s h (T ++ U) with n | ⟨e, m, s1, l1, x1⟩
    · rw [pin_no h1 fun e m => n e (List.mem_append_left _ m), pin_no h2 fun e m => n e (List.mem_append_right _ m)]
    · have := al e.q (place_mem.mpr ⟨e, m, rfl⟩)
      rw [apart_q] at this
      have eq : pin T e.s e.h = pin U e.s e.h := by simpa using this
      subst s1
      rw [pin_still h1 l1 fun e' m' s' l => x1 e' (List.mem_append_left _ m') s' l, pin_still h2 l1 fun e' m' s' l => x1 e' (List.mem_append_right _ m') s' l]
      exact eq
  · obtain ⟨e, _, rfl⟩ := place_mem.mp m
    rw [apart_q, al e.s e.h]
    simp
theorem kO_non {o : Option TKy} : kO o = .non ↔ o = none := by cases o <;> simp [kO]
/-- one entry out -/
theorem out_tb {T : List En} (h : Tb T) {i : Nat} (hi : i < T.length) (two : 1 < T.length) : Tb (T.take i ++ T.drop (i + 1)) := by
  have sub : (T.take i ++ T.drop (i + 1)).Sublist T := by
    conv => rhs; rw [← List.take_append_drop i T]
    refine List.Sublist.append (List.Sublist.refl _) ?_
    rw [List.drop_eq_getElem_cons hi]
    exact List.sublist_cons_self ..
  refine ⟨?_, Nat.le_trans sub.length_le h.hi, fun e m => h.ok e (sub.mem m), h.inc.sublist sub⟩
  rw [List.length_append, List.length_take, List.length_drop]
  omega
theorem out_apart {T : List En} (h : Tb T) {i : Nat} (hi : i < T.length) (pln : pl T = T) : ¬ Alike T (T.take i ++ T.drop (i + 1)) := by
  intro al
  have m := List.getElem_mem hi
  have inc := h.inc
  have e1 := pin_at inc m
  have m2 : T[i] ∈ pl T := Eq.mp (congrArg (fun l => T[i] ∈ l) pln.symm) m
  have e2 : pin T T[i].s (T[i].h - 1) ≠ some T[i].p := (pl_mem.mp m2).2
  have sub : (T.take i ++ T.drop (i + 1)).Sublist T := by
    conv => rhs; rw [← List.take_append_drop i T]
    refine List.Sublist.append (List.Sublist.refl _) ?_
    rw [List.drop_eq_getElem_cons hi]
    exact List.sublist_cons_self ..
  have incU := inc.sublist sub
  have nin : T[i] ∉ T.take i ++ T.drop (i + 1) := by
    have nd := inc_nodup inc
    have split : T = T.take i ++ T[i] :: T.drop (i + 1) := by rw [← List.drop_eq_getElem_cons hi, List.take_append_drop]
    rw [split] at nd
    have pm : (T.take i ++ T[i] :: T.drop (i + 1)).Perm (T[i] :: (T.take i ++ T.drop (i + 1))) := List.perm_middle
    exact (List.nodup_cons.mp (pm.nodup_iff.mp nd)).1
  have st : pin (T.take i ++ T.drop (i + 1)) T[i].s T[i].h = pin (T.take i ++ T.drop (i + 1)) T[i].s (T[i].h - 1) := pin_still incU (by omega) fun e' m' s' l => by
    by_cases z : e'.h = T[i].h
    · have := same_c inc (sub.mem m') m s' z
      rw [this] at m'
      exact absurd m' nin
    · omega
  rw [← al, ← al, e1] at st
  exact e2 st.symm
end DL

namespace DL
open PySem PySem.Spec PyProof.Rows L2

/-! ### dicts of entries -/
def ent (e : En) : List Key × D := (e.c, .int e.p)
theorem c_inj {a b : En} (h : a.c = b.c) : a.s = b.s ∧ a.h = b.h := by simpa [En.c] using h
abbrev Once (F : List En) : Prop := (F.map En.c).Nodup
def putE (F : List En) (e : En) : List En := if (F.any fun x => decide (x.c = e.c)) = true then F.map (fun x => if x.c = e.c then e else x) else F ++ [e]
theorem kPut_ent (F : List En) (e : En) : kPut (F.map ent) e.c (.int e.p) = (putE F e).map ent := by
  unfold kPut putE
  rw [show ((F.map ent).any fun p => decide (p.1 = e.c)) = (F.any fun x => decide (x.c = e.c)) by rw [List.any_map]; rfl]
  split
  · rw [List.map_map, List.map_map]
    refine List.map_congr_left fun x _ => ?_
    show (if (ent x).1 = e.c then ((ent x).1, D.int e.p) else ent x) = ent (if x.c = e.c then e else x)
    by_cases z : x.c = e.c
    · rw [if_pos (show (ent x).1 = e.c from z), if_pos z]
      exact congrArg (fun c => (c, D.int e.p)) z
    · rw [if_neg (show ¬ (ent x).1 = e.c from z), if_neg z]
  · simp [ent]
theorem putE_mem {F : List En} {e x : En} : x ∈ putE F e ↔ x = e ∨ (x ∈ F ∧ x.c ≠ e.c) := by
  unfold putE
  split
  · rename_i h
    obtain ⟨y, my, hy⟩ := List.any_eq_true.mp h
    have hy : y.c = e.c := of_decide_eq_true hy
    rw [List.mem_map]
    constructor
    · rintro ⟨z, mz, rfl⟩
      by_cases hz : z.c = e.c
      · rw [if_pos hz]; exact .inl rfl
      · rw [if_neg hz]; exact .inr ⟨mz, hz⟩
    · rintro (rfl | ⟨m, hz⟩)
      · exact ⟨y, my, by rw [if_pos hy]⟩
      · exact ⟨x, m, by rw [if_neg hz]⟩
  · rename_i h
    rw [List.mem_append, List.mem_singleton]
    constructor
    · rintro (m | rfl)
      · exact .inr ⟨m, fun z => h (List.any_eq_true.mpr ⟨x, m, decide_eq_true z⟩)⟩
      · exact .inl rfl
    · rintro (rfl | ⟨m, _⟩)
      · exact .inr rfl
      · exact .inl m
theorem putE_len (F : List En) (e : En) : (putE F e).length ≤ F.length + 1 := by
  unfold putE
  split <;> simp
theorem putE_pos (F : List En) (e : En) : 1 ≤ (putE F e).length := List.length_pos_of_mem (putE_mem.mpr (.inl rfl))
theorem putE_once {F : List En} (h : Once F) (e : En) : Once (putE F e) := by
  unfold putE Once
  split
  · rw [List.map_map]
    rw [show F.map (En.c ∘ fun x => if x.c = e.c then e else x) = F.map En.c from List.map_congr_left fun x _ => by
      simp only [Function.comp]
      split
      · rename_i z; exact z.symm
      · rfl]
    exact h
  · rename_i z
    rw [List.map_append, List.map_cons, List.map_nil]
    refine List.nodup_append.mpr ⟨h, by simp, fun a ha b hb => ?_⟩
    rw [List.mem_singleton] at hb
    subst hb
    rintro rfl
    obtain ⟨x, mx, hx⟩ := List.mem_map.mp ha
    exact z (List.any_eq_true.mpr ⟨x, mx, decide_eq_true hx⟩)
theorem kGet_ent {F : List En} (h : Once F) {e : En} (m : e ∈ F) : kGet (F.map ent) e.c = some (.int e.p) := by
  induction F with
  | nil => cases m
  | cons a r ih =>
    have hn := List.nodup_cons.mp h
    unfold kGet
    rw [List.map_cons, List.find?_cons]
    by_cases z : a.c = e.c
    · have : a = e := by
        rcases List.mem_cons.mp m with rfl | m
        · rfl
        · exact absurd (z ▸ List.mem_map.mpr ⟨e, m, rfl⟩) hn.1
      subst this
      simp [ent]
    · have m2 : e ∈ r := (List.mem_cons.mp m).resolve_left fun q => z (by rw [q])
      have := ih hn.2 m2
      unfold kGet at this
      simp only [ent, z, decide_false] at this ⊢
      exact this
/-- the entries in order -/
def srt (F : List En) : List En := F.mergeSort fun a b => DL.tLe a.k b.k
theorem srt_perm (F : List En) : (srt F).Perm F := List.mergeSort_perm _ _
theorem srt_inc {F : List En} (h : Once F) : Inc (srt F) := by
  have pw : (srt F).Pairwise fun a b => DL.tLe a.k b.k = true := List.pairwise_mergeSort (fun a b c => DL.tLe_trans a.k b.k c.k) (fun a b => DL.tLe_total a.k b.k) F
  have nd : (srt F).Pairwise fun a b => a.c ≠ b.c := List.pairwise_map.mp (((srt_perm F).map En.c).nodup_iff.mpr h)
  refine (List.pairwise_and_iff.mpr ⟨pw, nd⟩).imp fun {a b} ⟨h1, h2⟩ => ?_
  rcases tLt_total h2 with z | z
  · exact z
  · exfalso
    have : DL.tLt b.k a.k = true := by
      simp only [En.c, DL.tLt] at z
      simp only [En.k, DL.tLt]
      split at z
      · rename_i e1
        split at z
        · cases z
        · rename_i e2
          rw [if_pos e1, if_neg e2]
          exact z
      · rename_i e1
        rw [if_neg e1]
        exact z
    unfold DL.tLe at h1
    rw [this] at h1
    cases h1
theorem k_rows (F : List En) : Rows (F.map En.k) := by
  refine ⟨fun x hx y hy => ?_, fun x hx => ?_, fun x hx y hy => ?_⟩
  · obtain ⟨a, _, rfl⟩ := List.mem_map.mp hx
    obtain ⟨b, _, rfl⟩ := List.mem_map.mp hy
    simp only [En.k, DL.tCmp, kSame]
    repeat' split
    all_goals rfl
  · obtain ⟨a, _, rfl⟩ := List.mem_map.mp hx
    simp [En.k]
  · obtain ⟨a, _, rfl⟩ := List.mem_map.mp hx
    obtain ⟨b, _, rfl⟩ := List.mem_map.mp hy
    rfl
theorem tkey_c (e : En) : tkeyOf (tuD e.c) = some e.c := rfl
theorem put_ent {S : Sto} {f : Nat} {F : List En} {e : En} (h : S[f]? = some (.dT (F.map ent))) (hl : F.length + 1 ≤ 1000000) : putIt (.ref f) (tuD e.c) (.int e.p) S = some (S.set f (.dT ((putE F e).map ent))) := by
  simp only [putIt, h, tkey_c, List.length_map, sml hl, if_true, kPut_ent]
/-- tuple(sorted([key + (found[key],) for key in found])) -/
theorem dict_out {j : Nat} {env : DL.Env} {S : Sto} {f : Nat} {F : List En} (hd : env[2]? = some (some (.ref f))) (hj : j < env.length) (hj2 : j ≠ 2) (hS : S[f]? = some (.dT (F.map ent))) (once : Once F) (few : F.length ≤ 1000) :
    (eB1 (sTm (eB1 (sTm (eLock (lockV 2) (lComp (fun env S => ((eVar 2) env S).bind gIt) (aName j) [j] bT (eBin dAdd (eVar j) (eTup (aCons (eBin dIx (eVar 2) (eVar j)) aNil)))))) bSortX)) bTuple) env S = .ok (tbD (srt F)) S := by
  have hf : f < S.length := (List.getElem?_eq_some_iff.mp hS).1
  have hS' : (S.set f (.fT (F.map ent)))[f]? = some (.fT (F.map ent)) := List.getElem?_set_self hf
  have he2 : (wipeE env [j])[2]? = some (some (.ref f)) := by
    show (env.set j none)[2]? = _
    rw [List.getElem?_set_ne hj2]
    exact hd
  have hel : (wipeE env [j]).length = env.length := by show (env.set j none).length = _; simp
  have c1 : fComp (aName j) bT (eBin dAdd (eVar j) (eTup (aCons (eBin dIx (eVar 2) (eVar j)) aNil))) (fun S' => S'[f]? = some (.fT (F.map ent))) (wipeE env [j]) ((F.map ent).map fun p => D.tup (p.1.map kD)) (S.set f (.fT (F.map ent))) = .ok (F.map enD) (S.set f (.fT (F.map ent))) := by
    have := comp_pure (asg := aName j) (ft := bT) (fe := eBin dAdd (eVar j) (eTup (aCons (eBin dIx (eVar 2) (eVar j)) aNil))) (g := fun S' => S'[f]? = some (.fT (F.map ent))) (env := wipeE env [j]) (S := S.set f (.fT (F.map ent))) hS' (fun e : En => tuD e.c) (fun _ => true) enD F fun e m => ⟨_, rfl, rfl, fun _ => ?_⟩
    · rw [List.map_map, show (F.map ((fun p : List Key × D => D.tup (p.1.map kD)) ∘ ent)) = F.map fun e : En => tuD e.c from rfl, this, List.filter_eq_self.mpr (fun _ _ => rfl)]
    · have v2 : ((wipeE env [j]).set j (some (tuD e.c)))[2]? = some (some (.ref f)) := by rw [List.getElem?_set_ne hj2]; exact he2
      have vj : ((wipeE env [j]).set j (some (tuD e.c)))[j]? = some (some (tuD e.c)) := List.getElem?_set_self (by omega)
      have ix : dIx (.ref f) (tuD e.c) (S.set f (.fT (F.map ent))) = .ok (.int e.p) (S.set f (.fT (F.map ent))) := by
        simp only [dIx, hS', dLook, tkey_c, Option.map_some, kGet_ent once m]
      simp only [ev1, v2, vj, R.bind, ix, List.length_cons, List.length_nil, sml (by decide : 0 + 1 ≤ 1000000), if_true]
      show (if (e.c.map kD).length + [D.int e.p].length ≤ sizeLine then R.ok (D.tup (e.c.map kD ++ [D.int e.p])) _ else .bad) = _
      rw [if_pos (by rw [sizeLine_eq]; simp [En.c])]
      rfl
  have back : openS f (S.set f (.fT (F.map ent))) = some S := by
    unfold openS
    rw [hS']
    simp only [openO, List.set_set]
    congr 1
    apply List.ext_getElem?
    intro i
    by_cases z : f = i
    · subst z
      rw [List.getElem?_set_self hf, hS]
    · rw [List.getElem?_set_ne z]
  have lk : eLock (lockV 2) (lComp (fun env S => ((eVar 2) env S).bind gIt) (aName j) [j] bT (eBin dAdd (eVar j) (eTup (aCons (eBin dIx (eVar 2) (eVar j)) aNil)))) env S = .ok (F.map enD) S := by
    unfold eLock lockV
    simp only [hd, hS, lockO, ev2, ev1, R.bind, gIt, hS']
    rw [if_pos (sml (by simp; omega)), c1]
    simp only [back]
  have so : bSortX (.tm (F.map enD)) S = .ok ((srt F).map enD) S := by
    have e1 : F.map enD = (F.map En.k).map tuD := by rw [List.map_map]; rfl
    unfold bSortX
    rw [e1]
    simp only [getB, getA, R.bind, tups_tuD]
    rw [if_pos ⟨k_rows F, by rw [List.length_map, sizeLine_eq]; omega⟩]
    have : (srt F).map En.k = (F.map En.k).mergeSort DL.tLe := List.map_mergeSort fun a _ b _ => rfl
    rw [← this, List.map_map]
    rfl
  show (((((eLock (lockV 2) (lComp _ _ _ _ _) env S).bind fun xs S1 => R.ok (LS.tm xs) S1).bind bSortX).bind fun xs S1 => R.ok (LS.tm xs) S1).bind bTuple) = _
  rw [lk]
  show ((((bSortX (.tm (F.map enD)) S)).bind fun xs S1 => R.ok (LS.tm xs) S1).bind bTuple) = _
  rw [so]
  rfl
end DL

namespace DL
open PySem PySem.Spec PyProof.Rows L2

/-- what is new is written -/
theorem Dx.new {n : Nat} {S S' : Sto} (h : Dx n S S') {f : Nat} (o : O) (hf : S.length ≤ f) (hn : n < S.length) : Dx n S (S'.set f o) :=
  ⟨Dx.set h.dr o (by omega), by rw [List.length_set]; exact h.len, fun m hm hl => by rw [List.getElem?_set_ne (by omega)]; exact h.kp m hm hl⟩
theorem pick3 {a b c : Int} {v : Int} {S : Sto} (h0 : 0 ≤ v) (h1 : v < 3) : ∃ w : Int, R.ofO (L2.atI [D.int a, D.int b, D.int c] v) S = .ok (.int w) S ∧ (w = a ∨ w = b ∨ w = c) := by
  obtain ⟨k, rfl⟩ := Int.eq_ofNat_of_zero_le h0
  have : k = 0 ∨ k = 1 ∨ k = 2 := by omega
  rcases this with rfl | rfl | rfl
  · exact ⟨a, rfl, .inl rfl⟩
  · exact ⟨b, rfl, .inr (.inl rfl)⟩
  · exact ⟨c, rfl, .inr (.inr rfl)⟩
theorem table_drawn {d m : Nat} {S : Sto} {xs : List Str} (hd : Dr d S) (hmd : m ≠ d) (hm : S[m]? = some (.lst (xs.map .str))) (hx1 : 1 ≤ xs.length) (hx2 : xs.length ≤ 26) (hxs : ∀ x ∈ xs, nmOk x) :
    (g_law_table [.ref d, .ref m] S).W fun r S' => ∃ T : List En, r = tbD T ∧ Tb T ∧ T.length ≤ 9 ∧ (∀ e ∈ T, e.s ∈ xs) ∧ Dx d S S' := by
  unfold g_law_table gOf
  rw [R.W_ret]
  show (b_law_table [some (.ref d), some (.ref m), none, none, none, none, none, none] S).W _ _
  unfold b_law_table
  have hdl := hd.lt
  refine W_seq (fun e S' => e = [some (.ref d), some (.ref m), some (.ref S.length), none, none, none, none, none] ∧ S' = S ++ [.dT []]) ⟨rfl, rfl⟩ ?_
  rintro _ _ ⟨rfl, rfl⟩
  have dx0 : Dx d S (S ++ [.dT []]) := Dx.snoc hd _
  refine W_seq (fun e S' => ∃ far : Int, 0 < far ∧ far ≤ 1000000001 ∧ Dx d S S' ∧ S'[S.length]? = some (.dT []) ∧ e = [some (.ref d), some (.ref m), some (.ref S.length), some (.int far), none, none, none, none]) ?_ ?_
  · have hp : ∀ Z : Sto, dPow (.int 10) (.int 9) Z = .ok (.int (10 ^ 9)) Z := fun Z => pow_ok (j := 9) (by decide) (by decide)
    simp only [ev1, ev2, ev3, List.getElem?_cons_zero, List.getElem?_cons_succ, List.set_cons_succ, List.set_cons_zero, hp, add_ok, List.length_cons, List.length_nil, sml (by decide : 0 + 1 + 1 + 1 ≤ 1000000), if_true]
    refine (draw_ok dx0.dr (by decide) (by decide)).mono ?_
    rintro _ S1 ⟨v, rfl, v0, v1, vl, dx⟩
    obtain ⟨w, ew, hw⟩ := pick3 (a := 9) (b := 60) (c := 10 ^ 9 + 1) (S := S1) v0 v1
    simp only [ew, ev3]
    exact ⟨w, by rcases hw with rfl | rfl | rfl <;> decide, by rcases hw with rfl | rfl | rfl <;> decide, dx0.trans dx, dx.at (by omega) at_snoc, rfl⟩
  rintro _ S1 ⟨far, f0, f1, dx1, hf1, rfl⟩
  refine W_seq (fun e S' => ∃ (F : List En) (x4 x5 x6 : Option D), e = [some (.ref d), some (.ref m), some (.ref S.length), some (.int far), x4, x5, x6, none] ∧ Dx d S S' ∧ S'[S.length]? = some (.dT (F.map ent)) ∧ Once F ∧ F.length ≤ 9 ∧ 1 ≤ F.length ∧ ∀ e ∈ F, e.ok ∧ e.s ∈ xs) ?_ ?_
  · simp only [ev1, ev2, ev3, List.getElem?_cons_zero, List.getElem?_cons_succ, List.set_cons_succ, List.set_cons_zero, List.length_cons, List.length_nil, if_true]
    refine (draw_ok dx1.dr (by decide) (by decide)).mono ?_
    rintro _ S2 ⟨v, rfl, v0, v1, vl, dx2⟩
    obtain ⟨n, rfl⟩ := Int.eq_ofNat_of_zero_le v0
    simp only [ev3, add_ok]
    rw [show (1 : Int) + (n : Nat) = ((n + 1 : Nat) : Int) by omega, rOk_nat (show n + 1 ≤ 1000000 by omega), if_pos rfl]
    simp only [ev3]
    refine W_for (fun i e S' => ∃ (F : List En) (x4 x5 x6 : Option D), e = [some (.ref d), some (.ref m), some (.ref S.length), some (.int far), x4, x5, x6, none] ∧ Dx d S S' ∧ S'[S.length]? = some (.dT (F.map ent)) ∧ Once F ∧ F.length ≤ i ∧ (1 ≤ i → 1 ≤ F.length) ∧ ∀ e ∈ F, e.ok ∧ e.s ∈ xs) _ (fun _ _ _ _ => trivial) ?_ ?_ ⟨[], _, _, _, rfl, dx1.trans dx2, dx2.at (by omega) hf1, List.nodup_nil, Nat.le_refl _, by omega, by simp⟩
    · rintro i x env S3 hx ⟨F, x4, x5, x6, rfl, dx3, hf3, once, few, pos, ok⟩
      rw [rngL_nat] at hx
      obtain ⟨hi, rfl⟩ := rgK_get hx
      refine ⟨_, rfl, ?_⟩
      refine W_seq (fun e S' => ∃ p : Int, 0 ≤ p ∧ p ≤ 1000000 ∧ Dx d S3 S' ∧ e = [some (.ref d), some (.ref m), some (.ref S.length), some (.int far), some (.int (i : Nat)), some (.int p), x6, none]) ?_ ?_
      · simp only [aName, ev1, ev2, ev3, List.getElem?_cons_zero, List.getElem?_cons_succ, List.set_cons_succ, List.set_cons_zero, List.length_cons, List.length_nil, if_true]
        refine (draw_ok dx3.dr (by decide) (by decide)).mono ?_
        rintro _ S4 ⟨a, rfl, a0, a1, _, dxa⟩
        simp only [ev3, add_ok]
        refine (draw_ok dxa.dr (by decide) (by decide)).mono ?_
        rintro _ S5 ⟨b, rfl, b0, b1, _, dxb⟩
        simp only [ev3, add_ok, sml (by decide : 0 + 1 + 1 + 1 ≤ 1000000), if_true]
        refine (draw_ok dxb.dr (by decide) (by decide)).mono ?_
        rintro _ S6 ⟨c, rfl, c0, c1, _, dxc⟩
        have dv : dDiv (.int c) (.int 2) S6 = .ok (.int (c / 2)) S6 := div_ok (by decide) (Nat.lt_of_lt_of_le (by decide : (2 : Int).natAbs < 2 ^ 2) (Nat.pow_le_pow_right (by decide) (by decide)))
        obtain ⟨w, ew, hw⟩ := pick3 (a := 0) (b := 1 + a) (c := 1 + b) (v := c / 2) (S := S6) (by omega) (by omega)
        simp only [ev3, dv, ew]
        exact ⟨w, by omega, by omega, (dxa.trans dxb).trans dxc, rfl⟩
      rintro _ S4 ⟨p, p0, p1, dx4, rfl⟩
      refine W_seq (fun e S' => ∃ h : Int, 0 ≤ h ∧ h ≤ 1000000000 ∧ Dx d S4 S' ∧ e = [some (.ref d), some (.ref m), some (.ref S.length), some (.int far), some (.int (i : Nat)), some (.int p), some (.int h), none]) ?_ ?_
      · simp only [ev1, ev2, ev3, List.getElem?_cons_zero, List.getElem?_cons_succ, List.set_cons_succ, List.set_cons_zero, List.length_cons, List.length_nil, if_true]
        refine (draw_ok dx4.dr (by decide) (by decide)).mono ?_
        rintro _ S5 ⟨a, rfl, a0, a1, _, dxa⟩
        refine (draw_ok dxa.dr f0 (by omega)).mono ?_
        rintro _ S6 ⟨b, rfl, b0, b1, _, dxb⟩
        simp only [ev3, sml (by decide : 0 + 1 + 1 + 1 ≤ 1000000), if_true]
        refine (draw_ok dxb.dr (by decide) (by decide)).mono ?_
        rintro _ S7 ⟨c, rfl, c0, c1, _, dxc⟩
        obtain ⟨w, ew, hw⟩ := pick3 (a := 0) (b := a) (c := b) (v := c) (S := S7) c0 c1
        simp only [ev3, ew]
        exact ⟨w, by omega, by omega, (dxa.trans dxb).trans dxc, rfl⟩
      rintro _ S5 ⟨h, h0, h1, dx5, rfl⟩
      have dS5 := (dx3.trans dx4).trans dx5
      have hm5 := dS5.at hmd hm
      simp only [ev1, ev2, ev3, List.getElem?_cons_zero, List.getElem?_cons_succ, List.length_cons, List.length_nil, if_true, len_lst hm5, List.length_map]
      refine (draw_ok dx5.dr (by omega) (by omega)).mono ?_
      rintro _ S6 ⟨v, rfl, v0, v1, _, dx6⟩
      have dS6 := dS5.trans dx6
      obtain ⟨sx, hsx, es⟩ := ix_ref (v := v) (dS6.at hmd hm) v0 (by rw [List.length_map]; omega)
      obtain ⟨s, hs, rfl⟩ := List.mem_map.mp hsx
      have hf6 := dx6.at (by omega) (dx5.at (by omega) (dx4.at (by omega) hf3))
      have pe := put_ent (e := ⟨s, h, p⟩) hf6 (by omega)
      simp only [ev3, es, List.length_cons, List.length_nil, sml (by decide : 0 + 1 + 1 ≤ 1000000), if_true]
      rw [show putIt (.ref S.length) (.tup [.str s, .int h]) (.int p) S6 = some (S6.set S.length (.dT ((putE F ⟨s, h, p⟩).map ent))) from pe]
      refine ⟨putE F ⟨s, h, p⟩, _, _, _, rfl, dS6.new _ (Nat.le_refl _) hdl, ?_, putE_once once _, ?_, fun _ => putE_pos _ _, fun e he => ?_⟩
      · rw [List.getElem?_set_self (List.getElem?_eq_some_iff.mp hf6).1]
      · have := putE_len F ⟨s, h, p⟩
        omega
      · rcases putE_mem.mp he with rfl | ⟨he, _⟩
        · exact ⟨⟨hxs s hs, h0, h1, p0, p1⟩, hs⟩
        · exact ok e he
    · rintro e S' ⟨F, x4, x5, x6, rfl, dx3, hf3, once, few, pos, ok⟩
      rw [rngL_nat, rgK_len] at few pos
      exact ⟨F, _, _, _, rfl, dx3, hf3, once, by omega, pos (by omega), ok⟩
  rintro _ S2 ⟨F, x4, x5, x6, rfl, dx2, hf2, once, few, pos, ok⟩
  show (((eB1 _ bTuple) _ _).seq _ _).W _ _
  rw [dict_out (f := S.length) (F := F) rfl (show 7 < 8 by decide) (by decide) hf2 once (by omega)]
  refine ⟨srt F, rfl, ⟨by rw [(srt_perm F).length_eq]; exact pos, by rw [(srt_perm F).length_eq]; omega, fun e m => (ok e ((srt_perm F).mem_iff.mp m)).1, srt_inc once⟩, by rw [(srt_perm F).length_eq]; exact few, fun e m => (ok e ((srt_perm F).mem_iff.mp m)).2, dx2⟩
end DL

namespace DL
open PySem PySem.Spec PyProof.Rows L2

/-! ### lists of keys; tuples of tuples -/
theorem toPy_kl {S : Sto} {r n : Nat} {ks : List Key} (h : S[r]? = some (.lst (ks.map kD))) : toPy S (n + 2) (.ref r) = some (.list (ks.map kpy)) := by
  show (match S[r]? with | some (.lst xs) => (xs.mapM (toPy S (n + 1))).map PyData.list | _ => none) = _
  rw [h]
  simp only
  rw [mapM_toPy S (n + 1) kD kpy (toPy_kD S n)]
  rfl
theorem shaped_kl {ks : List Key} (h : tOk ks = true) : SeqAt.shaped (.list (ks.map kpy)) = true := by
  simp only [SeqAt.shaped, PyData.canLay0, canLayAll_k h, Bool.true_and, PyData.depth, depthAll_k]
  decide
theorem dEqB_kl {S : Sto} {r q : Nat} {xs ys : List Key} (h1 : S[r]? = some (.lst (xs.map kD))) (h2 : S[q]? = some (.lst (ys.map kD))) (hx : tOk xs = true) (hy : tOk ys = true) : dEqB S (.ref r) (.ref q) = some (decide (xs = ys)) := by
  unfold dEqB
  rw [toPy_kl (n := 10) h1, toPy_kl (n := 10) h2]
  have e : PyData.eqv (.list (xs.map kpy)) (.list (ys.map kpy)) = decide (xs = ys) := by
    simp only [PyData.eqv]
    exact eqvAll_kpy xs ys
  simp only [shaped_kl hx, shaped_kl hy, and_self, if_true, e]
theorem ne_kl {S : Sto} {r q : Nat} {xs ys : List Key} (h1 : S[r]? = some (.lst (xs.map kD))) (h2 : S[q]? = some (.lst (ys.map kD))) (hx : tOk xs = true) (hy : tOk ys = true) : dNe (.ref r) (.ref q) S = .ok (.bl (!decide (xs = ys))) S := by
  unfold dNe
  rw [dEqB_kl h1 h2 hx hy]
  rfl
/-- tuples of flat tuples -/
theorem toPy_tt {S : Sto} {n : Nat} {ts : List (List Key)} : toPy S (n + 3) (.tup (ts.map tuD)) = some (.tuple (ts.map tpy)) := by
  show ((ts.map tuD).mapM (toPy S (n + 2))).map PyData.tuple = _
  rw [mapM_toPy S (n + 2) tuD tpy (toPy_tD S n)]
  rfl
theorem shaped_tt {ts : List (List Key)} (h : ∀ t ∈ ts, tOk t = true) : SeqAt.shaped (.tuple (ts.map tpy)) = true := by
  have := depthAll_t ts
  simp only [SeqAt.shaped, PyData.canLay0, canLayAll_t h, Bool.true_and, PyData.depth, decide_eq_true_eq]
  exact decide_eq_true (Nat.le_trans (Nat.succ_le_succ this) (by decide : (2 : Nat) ≤ 64))
theorem dEqB_tt {S : Sto} {xs ys : List (List Key)} (hx : ∀ t ∈ xs, tOk t = true) (hy : ∀ t ∈ ys, tOk t = true) : dEqB S (.tup (xs.map tuD)) (.tup (ys.map tuD)) = some (decide (xs = ys)) := by
  unfold dEqB
  rw [toPy_tt (n := 9), toPy_tt (n := 9)]
  have e : PyData.eqv (.tuple (xs.map tpy)) (.tuple (ys.map tpy)) = decide (xs = ys) := by
    simp only [PyData.eqv]
    exact eqvAll_tpy xs ys
  simp only [shaped_tt hx, shaped_tt hy, and_self, if_true, e]
theorem k_inj {a b : En} (h : a.k = b.k) : a = b := by
  cases a; cases b
  simpa [En.k] using h
instance : DecidableEq En := fun a b => decidable_of_iff (a.k = b.k) ⟨k_inj, fun e => by rw [e]⟩
theorem mapk_inj {T U : List En} (h : T.map En.k = U.map En.k) : T = U := by
  induction T generalizing U with
  | nil => cases U with
    | nil => rfl
    | cons b U => cases h
  | cons a T ih => cases U with
    | nil => cases h
    | cons b U =>
      rw [List.map_cons, List.map_cons] at h
      rw [k_inj (List.cons.inj h).1, ih (List.cons.inj h).2]
theorem eqB_tb {T U : List En} {S : Sto} (h : ∀ e ∈ T, e.ok) (h' : ∀ e ∈ U, e.ok) : dEqB S (tbD T) (tbD U) = some (decide (T = U)) := by
  have e1 : ∀ W : List En, tbD W = .tup ((W.map En.k).map tuD) := fun W => by rw [List.map_map]; rfl
  rw [e1, e1, dEqB_tt (fun t m => by obtain ⟨e, me, rfl⟩ := List.mem_map.mp m; exact En.kOk (h e me)) (fun t m => by obtain ⟨e, me, rfl⟩ := List.mem_map.mp m; exact En.kOk (h' e me))]
  congr 1
  exact decide_eq_decide.mpr ⟨mapk_inj, fun e => by rw [e]⟩
theorem eq_tb {T U : List En} {S : Sto} (h : ∀ e ∈ T, e.ok) (h' : ∀ e ∈ U, e.ok) : dEq (tbD T) (tbD U) S = .ok (.bl (decide (T = U))) S := by
  unfold dEq
  rw [eqB_tb h h']
  rfl
theorem ne_tb {T U : List En} {S : Sto} (h : ∀ e ∈ T, e.ok) (h' : ∀ e ∈ U, e.ok) : dNe (tbD T) (tbD U) S = .ok (.bl (!decide (T = U))) S := by
  unfold dNe
  rw [eqB_tb h h']
  rfl
/-! ### _law_points (printed by gen.py) -/
abbrev n_law_points : List Str := ["table", "sort", "hour", "found", "entry"]
noncomputable def b_law_points : DL.Env → Sto → RS :=
  (sSeq (sNew 3 (lComp (fun env S => ((eVar 0) env S).bind gIt) (aName 4) [4] (bAnd (eTst (eBin dEq (eBin dIx (eVar 4) (eC (.int 0))) (eVar 1))) (eTst (eBin (dOrd .LtE) (eBin dIx (eVar 4) (eC (.int 1))) (eVar 2)))) (eBin dIx (eVar 4) (eC (.int 2)))))
  (sRet (eIf (eTst (eBin dNe (eVar 3) (eNew (lLst aNil)))) (eBin dIx (eVar 3) (eC (.int (-1)))) (eC .non))))
noncomputable def g_law_points : Fn := gOf n_law_points (b_law_points)
theorem pin_last (s : Str) (h : Int) (T : List En) : pin T s h = ((T.filter fun e => decide (e.s = s) && decide (e.h ≤ h)).map En.p).getLast? := by
  induction T with
  | nil => rfl
  | cons a T ih =>
    rw [pin_cons, ih]
    by_cases c : a.s = s ∧ a.h ≤ h
    · rw [List.filter_cons_of_pos (by simp [c.1, c.2]), List.map_cons, if_pos c]
      cases q : ((T.filter fun e => decide (e.s = s) && decide (e.h ≤ h)).map En.p) with
      | nil => rfl
      | cons x r => rw [List.getLast?_cons_cons, List.getLast?_cons]; rfl
    · rw [List.filter_cons_of_neg (by simpa using c), if_neg c, Option.or_none]
theorem law_points_ok {T : List En} {S : Sto} {s : Str} {h : Int} (hT : ∀ e ∈ T, e.ok) (few : T.length ≤ 1000) (hs : PyData.strOk s = true) : (g_law_points [tbD T, .str s, .int h] S).W fun d S' => d = oI (pin T s h) ∧ Px S S' := by
  unfold g_law_points gOf
  rw [R.W_ret]
  show (b_law_points [some (tbD T), some (.str s), some (.int h), none, none] S).W _ _
  obtain ⟨L, eL⟩ : ∃ L, L = (T.filter fun e => decide (e.s = s) && decide (e.h ≤ h)).map En.p := ⟨_, rfl⟩
  have c1 : fComp (aName 4) (bAnd (eTst (eBin dEq (eBin dIx (eVar 4) (eC (.int 0))) (eVar 1))) (eTst (eBin (dOrd .LtE) (eBin dIx (eVar 4) (eC (.int 1))) (eVar 2)))) (eBin dIx (eVar 4) (eC (.int 2))) Tru [some (tbD T), some (.str s), some (.int h), none, none] (T.map enD) S = .ok (L.map .int) S := by
    have := comp_pure (asg := aName 4) (ft := bAnd (eTst (eBin dEq (eBin dIx (eVar 4) (eC (.int 0))) (eVar 1))) (eTst (eBin (dOrd .LtE) (eBin dIx (eVar 4) (eC (.int 1))) (eVar 2)))) (fe := eBin dIx (eVar 4) (eC (.int 2))) (g := Tru) (env := [some (tbD T), some (.str s), some (.int h), none, none]) (S := S) trivial enD (fun e => decide (e.s = s) && decide (e.h ≤ h)) (fun e => .int e.p) T fun e m => ⟨_, rfl, ?_, fun _ => rfl⟩
    · rw [this, eL, List.map_map]
      rfl
    · have i0 : dIx (enD e) (.int 0) S = .ok (.str e.s) S := rfl
      have i1 : dIx (enD e) (.int 1) S = .ok (.int e.h) S := rfl
      have q1 : dEq (.str e.s) (.str s) S = .ok (.bl (decide (e.s = s))) S := eq_str (hT e m).1.ok hs
      have q2 : dOrd .LtE (.int e.h) (.int h) S = .ok (.bl (decide (e.h ≤ h))) S := le_ok
      simp only [ev1, ev2, aName, List.set_cons_succ, List.set_cons_zero, List.getElem?_cons_zero, List.getElem?_cons_succ, R.bind, i0, i1, q1]
      cases decide (e.s = s)
      · rfl
      · simp only [i1, q2, R.bind, Bool.true_and]
  simp only [b_law_points, ev1, ev2, ev3, List.getElem?_cons_zero, List.getElem?_cons_succ, gIt, wipeE, List.set_cons_succ, List.set_cons_zero]
  rw [if_pos (sml (by rw [List.length_map]; omega)), c1]
  have e0 : ∀ l : List Int, l.map D.int = (l.map Sum.inl).map kD := fun l => by rw [List.map_map]; rfl
  have ok0 : ∀ l : List Int, tOk (l.map Sum.inl) = true := fun l => by simp [tOk, DL.kOk]
  simp only [ev3, List.length_nil, sml (by decide : 0 ≤ 1000000), if_true]
  have hne : dNe (.ref S.length) (.ref (S ++ [O.lst (L.map .int)]).length) (S ++ [.lst (L.map .int)] ++ [.lst []]) = .ok (.bl (!decide (L = []))) (S ++ [.lst (L.map .int)] ++ [.lst []]) := by
    have := ne_kl (S := S ++ [O.lst (L.map .int)] ++ [O.lst []]) (r := S.length) (q := (S ++ [O.lst (L.map .int)]).length) (xs := L.map Sum.inl) (ys := []) (by rw [← e0]; exact (Px.snoc _ _).at at_snoc) at_snoc (ok0 L) rfl
    rw [this]
    congr 2
    simp
  rw [hne]
  have px : Px S (S ++ [.lst (L.map .int)] ++ [.lst []]) := (Px.snoc _ _).trans (Px.snoc _ _)
  cases q : L with
  | nil =>
    rw [q] at eL
    rw [pin_last, ← eL]
    rw [q] at px
    exact ⟨rfl, px⟩
  | cons x r =>
    rw [q] at eL
    rw [pin_last, ← eL]
    rw [q] at px
    have ix : dIx (.ref S.length) (.int (-1)) (S ++ [.lst ((x :: r).map .int)] ++ [.lst []]) = .ok (oI (x :: r).getLast?) (S ++ [.lst ((x :: r).map .int)] ++ [.lst []]) := by
      simp only [dIx, (Px.snoc (S ++ [O.lst ((x :: r).map D.int)]) (.lst [])).at at_snoc]
      have a1 : L2.atI ((x :: r).map D.int) (-1) = ((x :: r).map D.int).getLast? := by
        rw [List.getLast?_eq_getElem?]
        unfold L2.atI
        have : ixN ((x :: r).map D.int).length (-1) = some (((x :: r).map D.int).length - 1) := by
          simp [ixN]
          omega
        rw [this]
        rfl
      rw [a1, List.getLast?_map, List.getLast?_cons]
      rfl
    simp only [ev3, show (!decide (x :: r = [])) = true from by simp]
    rw [ix]
    exact ⟨rfl, px⟩
end DL

/-! sorting triples (i, w, row), row a flat tuple -/
namespace DL
open PySem PySem.Spec PyProof.Rows L2 PySem.W PySem.SeqAt

structure Tri where
  i : Int
  w : Int
  t : TKy
def Tri.f (p : Tri) : TKy := .inl p.i :: .inl p.w :: p.t
def Tri.d (p : Tri) : D := .tup [.int p.i, .int p.w, tuD p.t]
abbrev AT := Addr × Tri
structure Tris (ts : List Tri) : Prop where
  cmp : ∀ x ∈ ts, ∀ y ∈ ts, tCmp x.f y.f = true
  ok : ∀ x ∈ ts, tOk x.t = true
section
variable {P : Program} {w : World} {A : Around} {E : Value → Shared → Prop} {s : Shared}
def isT (P : Program) (w : World) (h : Heap) (p : Tri) (a : Addr) : Prop := ∃ o its n b t1 t2, h.get? a = some o ∧ o.cls = .type "tuple" ∧ o.data = .seq its n ∧ its.toList = [.int p.i t1, .int p.w t2, .ref b] ∧ isM P w h p.t b
theorem isT_keep {h h' : Heap} {p : Tri} {a : Addr} (x : isT P w h p a) (hk : ∀ c o, h.get? c = some o → h'.get? c = some o) : isT P w h' p a := by
  obtain ⟨o, its, n, b, t1, t2, ho, hc, hd, hi, m⟩ := x
  exact ⟨o, its, n, b, t1, t2, hk _ _ ho, hc, hd, hi, isM_keep m hk⟩
theorem isT_inj {h : Heap} {p q : Tri} {a : Addr} (x : isT P w h p a) (y : isT P w h q a) : p = q := by
  obtain ⟨o, its, n, b, t1, t2, ho, hc, hd, hi, m⟩ := x
  obtain ⟨o', its', n', b', t1', t2', ho', hc', hd', hi', m'⟩ := y
  rw [ho] at ho'
  cases ho'
  rw [hd] at hd'
  cases hd'
  rw [hi] at hi'
  simp only [List.cons.injEq, Value.int.injEq, Value.ref.injEq, and_true] at hi'
  obtain ⟨⟨e1, _⟩, ⟨e2, _⟩, rfl⟩ := hi'
  have e3 := m.inj m'
  cases p; cases q
  simp_all
def triOf (L : List AT) : Value → Option TKy
  | .ref a => (L.find? fun p => p.1 == a).map fun p => p.2.f
  | _ => none
noncomputable def triKind (L : List AT) : PyProof.Rows.KeyKind where
  α := TKy
  blt := DL.tLt
  irrefl := tLt_irrefl
  trans := fun _ _ _ => tLt_trans
  negTrans := tLt_neg
  total := tLt_tot
  keyOf := triOf L
  dflt := []
theorem triOf_inv {L : List AT} {v : Value} {k : TKy} (h : triOf L v = some k) : ∃ a p, v = .ref a ∧ (a, p) ∈ L ∧ p.f = k := by
  cases v with
  | ref a =>
    simp only [triOf, Option.map_eq_some_iff] at h
    obtain ⟨p, hp, rfl⟩ := h
    have h2 : p.1 = a := by simpa using List.find?_some hp
    exact ⟨a, p.2, rfl, by rw [← h2]; exact List.mem_of_find?_eq_some hp, rfl⟩
  | _ => cases h
theorem triOf_mem {L : List AT} {h : Heap} (hk : ∀ p ∈ L, isT P w h p.2 p.1) {p : AT} (hp : p ∈ L) : triOf L (.ref p.1) = some p.2.f := by
  have : ∃ q, L.find? (fun q => q.1 == p.1) = some q := by
    cases e : L.find? (fun q => q.1 == p.1) with
    | some q => exact ⟨q, rfl⟩
    | none => exact absurd (List.find?_eq_none.mp e p hp) (by simp)
  obtain ⟨q, hq⟩ := this
  have h2 : q.1 = p.1 := by simpa using List.find?_some hq
  have i1 := hk q (List.mem_of_find?_eq_some hq)
  rw [h2] at i1
  simp only [triOf, hq, Option.map_some, isT_inj i1 (hk p hp)]
theorem reads_all {h : Heap} : ∀ {ks : TKy} {vs : List Value}, ItemsAre (mixKind P w) ks vs → ReadsAll h vs (ks.map kpy) []
  | _, _, .nil => .nil
  | _, _, .cons e r => .cons (as := []) (bs := []) (reads_key e) (reads_all r)
theorem reads_isM {h : Heap} {t : TKy} {b : Addr} (m : isM P w h t b) : Reads h (.ref b) (tpy t) [] := by
  obtain ⟨o, its, n, ho, hc, hd, hi⟩ := m
  exact .tuple ho hc hd (reads_all hi)
/-- one item of two that are whole numbers -/
theorem lexI {b fin : Bool} {Q : Bool → Shared → Prop} (hu : A.units < cLine) {i j : Int} {t u : Tok} {vs ws : List Value} {n : Nat} (he : i = j → KatLex P w A b fin Q (vs.zip ws) (n + 1) s) (hn : i ≠ j → Q (decide (i < j)) s) : KatLex P w A b fin Q ((Value.int i t :: vs).zip (Value.int j u :: ws)) n s := by
  rw [List.zip_cons_cons]
  have r1 : Reads s.heap (.int i t) (kpy (.inl i)) [] := .int i t
  have r2 : Reads s.heap (.int j u) (kpy (.inl j)) [] := .int j u
  have hd : A.units + min (kpy (.inl i)).depth (kpy (.inl j)).depth < cLine := by rw [depth_k, depth_k]; simpa using hu
  refine kat_cons (eqAt_alike _ _ A s _ _ _ _ r1 r2 rfl hd P w _ _ ?_)
  rw [eqv_kpy]
  by_cases e : i = j
  · rw [decide_eq_true (by rw [e])]
    exact kat_yes (he e)
  · rw [decide_eq_false (by simpa using e)]
    refine kat_no (oneLt_alike (fun _ => kpy_nt (.inl i)) r1 r2 rfl (kpy_nn _) hd ?_)
    rw [dataLt_k rfl]
    exact hn e
theorem rowLast {b : Bool} {Q : Bool → Shared → Prop} (hu : A.units + 3 < cLine) {x y : TKy} {a c : Addr} (mx : isM P w s.heap x a) (my : isM P w s.heap y c) (hx : tOk x = true) (hy : tOk y = true) (hc : tCmp x y = true) (n : Nat) (q : Q (DL.tLt x y) s) : KatLex P w A b false Q ([(Value.ref a, Value.ref c)]) (n + 1) s := by
  have r1 := reads_isM mx
  have r2 := reads_isM my
  have c1 := canLay_t hx
  have c2 := canLay_t hy
  refine kat_cons (eqAt_reads _ _ A s _ _ _ _ r1 r2 c1 c2 (by rw [depth_t, depth_t]; omega) P w _ _ ?_)
  rw [eqv_tpy]
  by_cases e : x = y
  · rw [decide_eq_true e]
    refine kat_yes (kat_nil ?_)
    subst e
    rwa [tLt_irrefl] at q
  · rw [decide_eq_false e]
    refine kat_no ?_
    have e0 : (b && n + 1 == 0) = false := by cases b <;> rfl
    rw [e0]
    refine kat_one _ _ ?_
    have ro := rc_ord (op := .Lt) rfl 2 (tpy x) (tpy y) A s _ _ _ _ (DL.tLt x y) (by rw [depth_t]; omega) r1 r2 c1 c2 (ordPs_t hc) (by rw [depth_t]; omega)
    exact ro P w _ _ q
theorem sortsT {L : List AT} (hk : ∀ p ∈ L, isT P w s.heap p.2 p.1) (hr : Tris (L.map Prod.snd)) (hu : A.units + 3 < cLine) {vs : List Value} (hv : ∀ v ∈ vs, ∃ p ∈ L, v = .ref p.1) : SortsAt P w A s (triKind L) vs := by
  refine ⟨fun v m => ?_, tuples' true, ?_, fun h2 E Q q => ?_⟩
  · obtain ⟨p, hp, rfl⟩ := hv v m
    exact ⟨_, triOf_mem hk hp⟩
  · intro E x y a b Q ha hb q
    obtain ⟨x, p, rfl, mx, rfl⟩ := triOf_inv ha
    obtain ⟨y, r, rfl, my, rfl⟩ := triOf_inv hb
    obtain ⟨ox, ix, nx, bx, t1, t2, hox, _, hdx, hix, isx⟩ := hk _ mx
    obtain ⟨oy, iy, ny, by_, u1, u2, hoy, _, hdy, hiy, isy⟩ := hk _ my
    have mp : p ∈ L.map Prod.snd := List.mem_map.mpr ⟨_, mx, rfl⟩
    have mr : r ∈ L.map Prod.snd := List.mem_map.mpr ⟨_, my, rfl⟩
    have hc := hr.cmp p mp r mr
    have fin : decide (ix.size < iy.size) = false := by
      rw [← Array.length_toList, ← Array.length_toList, hix, hiy]
      rfl
    refine kat_lt hox hdx hoy hdy ?_
    rw [fin, hix, hiy]
    replace q : Q (DL.tLt p.f r.f) s := q
    simp only [Tri.f, DL.tLt, DL.kLt, Sum.inl.injEq] at q
    simp only [Tri.f, DL.tCmp, Sum.inl.injEq] at hc
    refine lexI (by omega) (fun (e1 : p.i = r.i) => ?_) fun (e1 : p.i ≠ r.i) => ?_
    · rw [if_pos e1] at q hc
      refine lexI (by omega) (fun (e2 : p.w = r.w) => ?_) fun (e2 : p.w ≠ r.w) => ?_
      · rw [if_pos e2] at q hc
        exact rowLast hu isx isy (hr.ok p mp) (hr.ok r mr) hc 1 q
      · rw [if_neg e2] at q
        exact q
    · rw [if_neg e1] at q
      exact q
  · have fst : ∀ vs : List Value, (∀ v ∈ vs, ∃ p ∈ L, v = .ref p.1) → ∃ fs, KatTups s.heap vs fs ∧ fs.length = vs.length ∧ ∀ f ∈ fs, ∃ i t, f = Value.int i t := by
      intro vs
      induction vs with
      | nil => exact fun _ => ⟨[], .nil, rfl, fun f m => (nomatch m)⟩
      | cons v vs ih =>
        intro hv
        obtain ⟨fs, h1, h2, h3⟩ := ih fun u m => hv u (List.mem_cons_of_mem _ m)
        obtain ⟨p, hp, rfl⟩ := hv v List.mem_cons_self
        obtain ⟨o, its, n, b, t1, t2, ho, hc, hd, hi, _⟩ := hk p hp
        refine ⟨.int p.2.i t1 :: fs, .cons ho hc hd (by rw [← Array.getElem?_toList, hi]; rfl) h1, by rw [List.length_cons, List.length_cons, h2], fun g m => ?_⟩
        rcases List.mem_cons.mp m with rfl | m
        · exact ⟨_, _, rfl⟩
        · exact h3 g m
    obtain ⟨fs, t1, t2, t3⟩ := fst vs hv
    refine kat_kind (T := Value.type "int") t1 (by omega) (fun f m => ?_) (beq_self_eq_true _) q
    obtain ⟨i, t, rfl⟩ := t3 f m
    exact looks_reads (d := .int i) (.int i t)
theorem tri_refs {L : List AT} {h : Heap} (hk : ∀ p ∈ L, isT P w h p.2 p.1) : PySem.W.sortVals (triKind L) false (L.map fun p => Value.ref p.1) (L.map fun p => Value.ref p.1) = (L.mergeSort fun x y => DL.tLe x.2.f y.2.f).map fun p => Value.ref p.1 := by
  have each : ∀ l : List AT, PySem.W.EachIs (fun v (p : AT) => v = Value.ref p.1) (l.map fun p => Value.ref p.1) l := fun l => by
    induction l with
    | nil => exact .nil
    | cons p l ih => exact .cons rfl ih
  have keyd : ∀ l : List AT, (∀ p ∈ l, p ∈ L) → PySem.W.EachIs (fun v (p : AT) => (triKind L).keyOf v = some p.2.f) (l.map fun p => Value.ref p.1) l := fun l => by
    induction l with
    | nil => exact fun _ => .nil
    | cons p l ih => exact fun hl => .cons (triOf_mem hk (hl p List.mem_cons_self)) (ih fun r m => hl r (List.mem_cons_of_mem _ m))
  have := PySem.W.sortVals_each (rev := false) (κ := triKind L) (fun p : AT => p.2.f) (each L) (keyd L fun _ m => m)
  have e2 : ∀ {vs : List Value} {l : List AT}, PySem.W.EachIs (fun v (p : AT) => v = Value.ref p.1) vs l → vs = l.map fun p => Value.ref p.1 := fun {vs l} z => by
    induction z with
    | nil => rfl
    | cons e _ ih => rw [e, ih]; rfl
  exact e2 this
end
section
variable {X : Cx}
def triH (K : PySem.W.Frag) (H : Hp) (p : AT) : Prop := ∃ b, SqT K H p.1 [.int p.2.i, .int p.2.w, .ref b] ∧ SqT K H b (p.2.t.map kV)
def rSortT (K : PySem.W.Frag) : List V → Hp → VK → Prop := fun vs H Q => ∃ (a : Addr) (L : List AT), vs = [V.ref a] ∧ SqL K H a (L.map fun p => V.ref p.1) ∧ (∀ p ∈ L, triH K H p) ∧ Tris (L.map Prod.snd) ∧ L.length ≤ sizeLine ∧
  ∀ p, H p = none → Q (.ref p) (upd H p (.lst ((L.mergeSort fun x y => DL.tLe x.2.f y.2.f).map fun q => V.ref q.1)))
theorem refs_at : ∀ {ks : List AT} {us : List Value}, Vals (ks.map fun p => V.ref p.1) us → us = ks.map fun p => Value.ref p.1
  | [], _, .nil => rfl
  | p :: ks, _, .cons r t => by
    cases r
    rw [List.map_cons, ← refs_at t]
theorem at_refs : ∀ ks : List AT, Vals (ks.map fun p => V.ref p.1) (ks.map fun p => Value.ref p.1)
  | [] => .nil
  | p :: ks => .cons rfl (at_refs ks)
theorem inv_isT {pins : List (Addr × Obj)} {σ : L2.St} {H : Hp} {s : Shared} {p : AT} (I : Inv X pins σ H s) (h : triH X.K H p) : isT X.prog X.w s.heap p.2 p.1 := by
  obtain ⟨b, h1, h2⟩ := h
  obtain ⟨its, r, ⟨o, ho, hc, n, hd⟩, _⟩ := I.tuple h1
  cases r with
  | cons r1 r =>
    cases r with
    | cons r2 r =>
      cases r with
      | cons r3 r =>
        cases r
        obtain ⟨t1, rfl⟩ := r1
        obtain ⟨t2, rfl⟩ := r2
        cases r3
        exact ⟨o, _, n, b, t1, t2, ho, hc, hd, rfl, inv_isM I h2⟩
theorem cr_sortT (hu : X.A.units + 64 < cLine) : CallR X (.builtin "sorted") (rSortT X.K) := by
  intro pins s σ H vs us Q I r h
  obtain ⟨a, L, rfl, ha, hk, hr, hz, q⟩ := h
  obtain ⟨its, rv, hl, _⟩ := I.list ha
  rw [Vals.ref1 r]
  have hi := refs_at rv
  have keys : ∀ p ∈ L, isT X.prog X.w s.heap p.2 p.1 := fun p hp => inv_isT I (hk p hp)
  subst hi
  have S := sortsT (P := X.prog) (w := X.w) (A := X.A.in1.in1) (s := { s with heap := PySem.W.sortingHeap (PySem.W.copyHeap s.heap (L.map fun r => Value.ref r.1)) (s.heap.objs.size + 1) (L.map fun r => Value.ref r.1) }) (fun r m => isT_keep (keys r m) fun _ _ e => PySem.W.sorting_copy_old e) hr (show X.A.units + 2 + 3 < cLine by omega) (vs := L.map fun r => Value.ref r.1) (fun v m => by
    obtain ⟨r, hr, rfl⟩ := List.mem_map.mp m
    exact ⟨r, hr, rfl⟩)
  refine PySem.W.sorted_vals hl.isList S (by rw [List.length_map]; exact hz) ?_
  obtain ⟨ep, he⟩ := PyProof.Rows.sortedAll_at s.heap (L.map fun r => Value.ref r.1) (PySem.W.sortVals (triKind L) false (L.map fun r => Value.ref r.1) (L.map fun r => Value.ref r.1)).toArray
  have len : ((L.mergeSort fun x y => DL.tLe x.2.f y.2.f).map fun q => V.ref q.1).length ≤ sizeLine := by rw [List.length_map, List.length_mergeSort]; exact hz
  refine ⟨.ref _, upd H (s.heap.objs.size + 1) (.lst _), I.laid (t' := s.toks) (fun _ _ => PyProof.Rows.sortedAll_old) (Nat.le_succ _) ⟨len, _, ep, ?_, he⟩, rfl, q _ (I.hok.fresh (Nat.le_succ _))⟩
  rw [tri_refs keys]
  exact at_refs _
end
def triI : D → Option Tri
  | .tup [.int i, .int w, d] => (tupI d).map fun t => ⟨i, w, t⟩
  | _ => none
theorem triI_inv (d : D) (p : Tri) (h : triI d = some p) : d = p.d := by
  unfold triI at h
  split at h
  · rename_i i w d'
    obtain ⟨t, h1, rfl⟩ := Option.map_eq_some_iff.mp h
    rw [tupI_inv d' t h1]
    rfl
  · cases h
theorem triI_d (p : Tri) : triI p.d = some p := by
  show (tupI (tuD p.t)).map _ = _
  rw [tupI_tuD]
  rfl
open Classical in
/-- sorted(xs), xs triples -/
noncomputable def bSortT (l : LS) (S : Sto) : R (List D) := (getB l S).bind fun xs S1 => match xs.mapM triI with
  | some ts => if Tris ts ∧ ts.length ≤ sizeLine then .ok ((ts.mergeSort fun x y => DL.tLe x.f y.f).map Tri.d) S1 else .bad
  | none => .bad
section
variable {X : Cx} {W : WX} {k : Nat} {N : List Str} {vis loc : List Nat} {gls : List Str} {e : Expr} {p pos : Pos} {gl : Env → Sto → R LS} {K : PySem.W.Frag} {H : Hp} {ι : List Addr}
theorem tri_of {d : Tri} {v : V} (h : DV K H ι d.d v) : ∃ a, v = .ref a ∧ triH K H (a, d) := by
  cases h with
  | tup h1 d1 =>
    cases d1 with
    | cons q1 d1 =>
      cases d1 with
      | cons q2 d1 =>
        cases d1 with
        | cons q3 d1 =>
          cases d1
          cases q1
          cases q2
          rename_i v
          have : ∃ b, v = V.ref b := by cases q3; exact ⟨_, rfl⟩
          obtain ⟨b, rfl⟩ := this
          exact ⟨_, rfl, b, SqT.of h1, sq_of q3⟩
theorem tris_of : ∀ {ts : List Tri} {vs : List V}, DVs K H ι (ts.map Tri.d) vs → ∃ L : List AT, vs = L.map (fun p => V.ref p.1) ∧ L.map Prod.snd = ts ∧ ∀ p ∈ L, DV K H ι p.2.d (.ref p.1) ∧ triH K H p
  | [], _, .nil => ⟨[], rfl, rfl, fun p m => (nomatch m)⟩
  | t :: ts, _, .cons (v := v) h r => by
    obtain ⟨L, e1, e2, h3⟩ := tris_of r
    obtain ⟨a, rfl, ht⟩ := tri_of h
    exact ⟨(a, t) :: L, by rw [e1]; rfl, by rw [← e2]; rfl, fun p m => (List.mem_cons.mp m).elim (fun z => z ▸ ⟨h, ht⟩) (h3 p)⟩
theorem dvs_tris {L : List AT} (h : ∀ p ∈ L, DV K H ι p.2.d (.ref p.1)) : DVs K H ι ((L.map Prod.snd).map Tri.d) (L.map fun p => V.ref p.1) := by
  induction L with
  | nil => exact .nil
  | cons p L ih => exact .cons (h p List.mem_cons_self) (ih fun q m => h q (List.mem_cons_of_mem _ m))
theorem sortt_ok : Rl1 X W (rSortT X.K) bSortT := fun σ H0 H ι0 ι S l v Q e r d h => by
  obtain ⟨a, xs, vs, rfl, hs, ds, h⟩ := getB_end r d h
  cases q : xs.mapM triI with
  | none => rw [q] at h; exact h.elim
  | some ts =>
    rw [q] at h
    simp only at h
    obtain rfl := mapM_inv triI_inv q
    obtain ⟨ks, rfl, e2, hk⟩ := tris_of ds
    by_cases hc : Tris ts ∧ ts.length ≤ sizeLine
    · rw [if_pos hc] at h
      refine ⟨a, ks, rfl, hs, fun p m => (hk p m).2, by rw [e2]; exact hc.1, by rw [← e2, List.length_map] at hc; exact hc.2, fun p hp => ?_⟩
      have es : (ks.mergeSort fun x y => DL.tLe x.2.f y.2.f).map Prod.snd = ts.mergeSort fun x y => DL.tLe x.f y.f := by
        rw [← e2]
        exact List.map_mergeSort fun a _ b _ => rfl
      rw [← es] at h
      exact tmp_end e r (dvs_tris fun p m => (hk p ((List.mergeSort_perm _ _).mem_iff.mp m)).1) h hp
    · rw [if_neg hc] at h
      exact h.elim
theorem dl_sortt (c : Ctx X W k N vis loc gls) (ha : PE X e (tLS X.K gl W)) (hm : X.mg "sorted" = none) (hg : gls.contains ("sorted" : Str) = true := by decide +kernel) (hs : starEach [e] X.env = (false, eval e X.env) :: starEach [] X.env := by rfl) : PE X (.Call (.Name "sorted" p) [e] [] pos) (tTm X.K (eB1 gl bSortT) W) :=
  dl_b1 c (cr_sortT (by have := c.hr.un; omega)) sortt_ok ha hm (by decide +kernel) hg (by decide +kernel) (by decide +kernel) hs
end
end DL

namespace DL
open PySem PySem.Spec PyProof.Rows L2

/-! ### what only adds -/
theorem Ext.keep {H H' : Hp} {ι : List Addr} (h : ∀ b o, H b = some o → H' b = some o) : Ext H ι H' ι :=
  ⟨⟨⟨[], by simp⟩, fun b o _ e => h b o e⟩, fun b o _ e => h b o e, fun b e => by
    cases q : H b with
    | none => exact absurd q e
    | some o => rw [h b o q]; simp, fun _ h => .inl h⟩
theorem Rep.keep {K : PySem.W.Frag} {H H' : Hp} {ι : List Addr} {S : Sto} (r : Rep K H ι S) (h : ∀ b o, H b = some o → H' b = some o) : Rep K H' ι S :=
  ⟨r.len, r.nd, r.ext (Ext.keep h) fun b hb => by
    obtain ⟨u, e⟩ := r.mem hb
    rw [e, h b u e]⟩

/-! ### list(d.items()) -/
def itmD (p : Key × D) : D := .tup [kD p.1, p.2]
def lItems (fo : Env → Sto → R D) : Env → Sto → R (List D) := fun env S => (fo env S).bind fun x S1 => match x with
  | .ref n => (match S1[n]? with
    | some (.dK kvs) => .ok (kvs.map itmD) S1
    | _ => .bad)
  | _ => .bad
theorem kD_dv {K : PySem.W.Frag} {H : Hp} {ι : List Addr} (k : Key) : DV K H ι (kD k) (kV k) := by cases k <;> constructor
theorem dvs_items {K : PySem.W.Frag} {H : Hp} {ι : List Addr} : ∀ {kvs : List (Key × D)} {kws : List (Key × V)} {ts : List Addr}, DP K H ι kvs kws → Paired (fun (t : Addr) (q : Key × V) => H t = some (.tup [kV q.1, q.2])) ts kws → DVs K H ι (kvs.map itmD) (ts.map V.ref)
  | _, _, _, .nil, .nil => .nil
  | _, _, _, .cons d r, .cons h t => .cons (.tup h (.cons (kD_dv _) (.cons d .nil))) (dvs_items r t)
section
variable {X : Cx} {W : WX} {k : Nat} {N : List Str} {vis loc : List Nat} {gls : List Str} {e f o : Expr} {p apos cpos pos : Pos} {fo fi : Env → Sto → R D} {gl : Env → Sto → R LS}
theorem dl_items (c : Ctx X W k N vis loc gls) (ho : PE X o (tD X.K fo W)) (hm : X.mg "list" = none) (hg : gls.contains ("list" : Str) = true := by decide +kernel) (hbase : attributeBase o "items" X.env (eval o X.env) = eval o X.env := by rfl) (hline : (apos.endLine == cpos.line) = true := by rfl)
    (hs : starEach [.Call (.Attribute o "items" apos) [] [] cpos] X.env = (false, eval (.Call (.Attribute o "items" apos) [] [] cpos) X.env) :: starEach [] X.env := by rfl) :
    PE X (.Call (.Name "list" p) [.Call (.Attribute o "items" apos) [] [] cpos] [] pos) (tTm X.K (lItems fo) W) := by
  refine PE.imp (LiI.pe_listItems c.calm ho (c.hg "list" (by simpa using hg)) hm (by decide +kernel) hbase hline hs) fun σ H Q ⟨ι, env, S, r, en, h⟩ => ⟨ι, env, S, r, en, (ends.bind h).imp fun v H1 ⟨ι1, x, S1, _, e1, r1, d1, h1⟩ => ?_⟩
  cases d1 with
  | @ref n a hn =>
    simp only at h1
    split at h1
    · rename_i kvs hs1
      obtain ⟨kws, q1, q2⟩ := r1.dK hs1 hn
      refine ⟨a, kws, rfl, q1, fun H' p ts kp np nts pts hp pr => ?_⟩
      exact h1 ι1 H' _ (Ext.keep kp) (r1.keep kp) ⟨p, ts.map V.ref, rfl, e1.was np, hp, dvs_items (q2.mono (Ext.keep (ι := ι1) kp).toGr) pr, r1.free np⟩
    · exact h1.elim
  | _ => exact h1.elim

/-! ### {'a': x, ..} -/
def dispE : List (Str × (Env → Sto → R D)) → Env → Sto → R (List (Key × D))
  | [], _, S => .ok [] S
  | (x, f) :: r, env, S => (f env S).bind fun d S1 => (dispE r env S1).bind fun ds S2 => .ok ((.inr x, d) :: ds) S2
def mergeD (kvs more : List (Key × D)) : List (Key × D) := more.foldl (fun acc kv => kPut acc kv.1 kv.2) kvs
theorem DP.merge {K : PySem.W.Frag} {H : Hp} {ι : List Addr} {more : List (Key × D)} {mw : List (Key × V)} (r : DP K H ι more mw) : ∀ {kvs : List (Key × D)} {kws : List (Key × V)}, DP K H ι kvs kws → DP K H ι (mergeD kvs more) (mergeK kws mw) := by
  induction r with
  | nil => exact fun h => h
  | cons d _ ih => exact fun h => ih (DP.put d h)
theorem ends.after {α β : Type} {K : PySem.W.Frag} {W : WX} {σ : St} {rel : Rl α β} {H H1 : Hp} {ι ι1 : List Addr} {Q : β → Hp → Prop} {r : R α} (e : Ext H ι H1 ι1) (h : ends K W σ rel H ι Q r) : ends K W σ rel H1 ι1 Q r := by
  cases r with
  | ok a S => exact fun ι' H' b e' p d => h ι' H' b (e.trans e') p d
  | err x S => exact fun ι' H' cls dd e' p d => h ι' H' cls dd (e.trans e') p d
  | bad => exact h
def eDisp (fs : List (Str × (Env → Sto → R D))) : Env → Sto → R D := fun env S => (dispE fs env (S ++ [.dK []])).bind fun kvs S2 => match S2[S.length]? with
  | some (.dK []) => .ok (.ref S.length) (S2.set S.length (.dK (mergeD [] kvs)))
  | _ => .bad
inductive DPs (X : Cx) (W : WX) : List (Option Expr) → List Expr → List (Str × (Env → Sto → R D)) → Prop
  | nil : DPs X W [] [] []
  | cons {x : Str} {j} {q : Pos} {v : Expr} {f : Env → Sto → R D} {ks : List (Option Expr)} {vs : List Expr} {fs : List (Str × (Env → Sto → R D))} : PE X v (tD X.K f W) → DPs X W ks vs fs → DPs X W (some (.Constant (.str x) j q) :: ks) (v :: vs) ((x, f) :: fs)
def dTrs (X : Cx) (W : WX) (fs : List (Str × (Env → Sto → R D))) : List (TE × TE) := fs.map fun p => (tC (.str p.1), tD X.K p.2 W)
theorem DPs.pps {ks : List (Option Expr)} {vs : List Expr} {fs : List (Str × (Env → Sto → R D))} (h : DPs X W ks vs fs) : PPs X pos ks vs (dTrs X W fs) := by
  induction h with
  | nil => exact pps_nil
  | cons hv _ ih => exact pps_cons pe_str hv ih
theorem DPs.len {ks : List (Option Expr)} {vs : List Expr} {fs : List (Str × (Env → Sto → R D))} (h : DPs X W ks vs fs) : ks.length = fs.length ∧ vs.length = fs.length ∧ ks.all (·.isSome) = true := by
  induction h with
  | nil => exact ⟨rfl, rfl, rfl⟩
  | cons hv _ ih => exact ⟨congrArg (· + 1) ih.1, congrArg (· + 1) ih.2.1, by simp [ih.2.2]⟩
def dpR (K : PySem.W.Frag) : Rl (List (Key × D)) (List (Key × V)) := fun H ι => DP K H ι
theorem pairs_run {σ : St} : ∀ {fs : List (Str × (Env → Sto → R D))} {H : Hp} {ι : List Addr} {env : Env} {S : Sto} {Q : List (Key × V) → Hp → Prop} {P : List (V × V) → Hp → Prop}, Rep X.K H ι S → EnvR X.K H ι env σ → ends X.K W σ (dpR X.K) H ι Q (dispE fs env S) →
    (∀ (kvs : List (Key × V)) H2, kvs.length = fs.length → Q kvs H2 → P (kvs.map fun kv => (kV kv.1, kv.2)) H2) → tPairs (dTrs X W fs) σ H P
  | [], H, ι, env, S, Q, P, r, en, h, q => q [] H rfl (h ι H [] (Ext.refl _ _) r .nil)
  | (x, f) :: fs, H, ι, env, S, Q, P, r, en, h, q => by
    refine (show tD X.K f W σ H _ from ⟨ι, env, S, r, en, (ends.bind h).imp fun v H1 ⟨ι1, d, S1, _, e1, r1, d1, h1⟩ => ?_⟩)
    exact pairs_run (fs := fs) r1 (en.mono e1.toGr) (ends.bind h1) fun kvs H2 l ⟨ι2, ds, S2, _, e2, r2, d2, h2⟩ => q ((.inr x, v) :: kvs) H2 (by simp [l]) (h2 ι2 H2 _ (Ext.refl _ _) r2 (.cons (d1.mono e2.toGr) d2))
theorem de_disp (c : Ctx X W k N vis loc gls) {ks : List (Option Expr)} {vs : List Expr} {fs : List (Str × (Env → Sto → R D))} (h : DPs X W ks vs fs) (hn : ks ≠ [] := by simp) (hl : ks.length ≤ 15 := by decide) : PE X (.Dict ks vs pos) (tD X.K (eDisp fs) W) := by
  have l := h.len
  refine PE.imp (pe_disp h.pps l.2.2 (l.1.trans l.2.1.symm) hn hl) fun σ H Q ⟨ι, env, S, r, en, h0⟩ p np => ?_
  have ad := Ext.adopt (ι := ι) (.dK []) np
  have hi : (ι ++ [p])[S.length]? = some p := by rw [← r.len]; exact List.getElem?_concat_length ..
  refine pairs_run (r.adopt np (.dK .nil)) (en.mono ad.toGr) (ends.bind (ends.after ad h0)) fun kvs H2 l2 ⟨ι1, ds, S2, _, e1, r1, d1, h1⟩ => ?_
  split at h1
  · rename_i hs
    have hp := e1.get hi
    obtain ⟨u, q1, q2⟩ := r1.ob _ _ _ hs hp
    cases q2 with
    | dK q2 =>
      cases q2
      have hz : ((O.dK [] : O)).frz = false := rfl
      refine ⟨q1, kvs, rfl, by rw [l2, ← l.1]; exact hl, ?_⟩
      have ew := r1.ext_write hs hz hp (.dK (mergeK [] kvs))
      exact h1 ι1 _ _ ew (r1.write hs hz hp (.dK (DP.merge d1 .nil))) (.ref hp)
  · exact h1.elim

/-! ### dict(xs), xs a list of pairs -/
def pairsI : List D → Option (List (Key × D))
  | [] => some []
  | .tup [k, d] :: r => (match keyOf k, pairsI r with
    | some q, some ks => some ((q, d) :: ks)
    | _, _ => none)
  | _ => none
def bDict (l : LS) (S : Sto) : R D := (getM l S).bind fun xs S1 => (R.ofO (pairsI xs) S1).bind fun kvs S2 => .ok (.ref S2.length) (S2 ++ [.dK (mergeD [] kvs)])
theorem pairs_of_dvs {K : PySem.W.Frag} {H : Hp} {ι : List Addr} : ∀ {xs : List D} {vs : List V} {kvs : List (Key × D)}, DVs K H ι xs vs → pairsI xs = some kvs → ∃ (ps : List Addr) (kws : List (Key × V)), vs = ps.map V.ref ∧ Paired (fun p kv => SqT K H p [kV kv.1, kv.2]) ps kws ∧ DP K H ι kvs kws
  | [], _, _, .nil, h => by cases h; exact ⟨[], [], rfl, .nil, .nil⟩
  | x :: xs, _, kvs, .cons d1 d2, h => by
    unfold pairsI at h
    split at h
    · rename_i he; cases he
    · rename_i k d r he
      cases he
      split at h
      · rename_i q ks h1 h2
        cases h
        obtain ⟨ps, kws, rfl, pp, dp⟩ := pairs_of_dvs d2 h2
        cases d1 with
        | tup ha da =>
          cases da with
          | cons dk da =>
            cases da with
            | cons dd da =>
              cases da
              have := keyOf_ok dk h1
              subst this
              exact ⟨_ :: ps, (q, _) :: kws, rfl, .cons (SqT.of ha) pp, .cons dd dp⟩
      · cases h
    · cases h
theorem dict_ok : Rd1 X W (fun xs H Q => ∃ (a : Addr) (ps : List Addr) (kvs : List (Key × V)), xs = [.ref a] ∧ SqL X.K H a (ps.map V.ref) ∧ Paired (fun p kv => SqT X.K H p [kV kv.1, kv.2]) ps kvs ∧ ∀ p, H p = none → Q (.ref p) (upd H p (.dK (mergeK [] kvs)))) bDict := fun σ H0 H ι0 ι S l v Q e r d h => by
  obtain ⟨p, xs, vs, rfl, q1, q2, h⟩ := getM_end r d h
  obtain ⟨kvs, e1, h⟩ := ofO_end h
  obtain ⟨ps, kws, rfl, pp, dp⟩ := pairs_of_dvs q2 e1
  refine ⟨p, ps, kws, rfl, SqL.of q1, pp, fun q hq => ?_⟩
  have ad := Ext.adopt (ι := ι) (.dK (mergeK [] kws)) hq
  exact h (ι ++ [q]) _ _ ad (r.adopt hq (.dK (DP.merge dp .nil))) (.ref (by rw [← r.len]; exact List.getElem?_concat_length ..))
theorem de_dict (c : Ctx X W k N vis loc gls) (ha : PE X e (tLS X.K gl W)) (hm : X.mg "dict" = none) (hg : gls.contains ("dict" : Str) = true := by decide +kernel) (hs : starEach [e] X.env = (false, eval e X.env) :: starEach [] X.env := by rfl) : PE X (.Call (.Name "dict" p) [e] [] pos) (tD X.K (eB1 gl bDict) W) :=
  de_t1 c (call_dictP c.calm) dict_ok ha hm (by decide +kernel) hg (by decide +kernel) (by decide +kernel) hs

/-! ### d.update(d2) -/
def rDUpd : V → List V → Hp → VK → Prop := fun x xs H Q => ∃ (a b : Addr) (kvs more : List (Key × V)), x = .ref a ∧ xs = [.ref b] ∧ H a = some (.dK kvs) ∧ H b = some (.dK more) ∧ a ≠ b ∧ kvs.length + more.length ≤ sizeLine ∧ Q .non (upd H a (.dK (mergeK kvs more)))
theorem mt_dupdate : MtR X "dict.update" rDUpd := by
  intro pins s σ H x xs v us Q I rx rxs h
  obtain ⟨a, b, kvs, more, rfl, rfl, ha, hb, ab, sz, q⟩ := h
  cases rx
  rw [Vals.ref1 rxs]
  obtain ⟨_, da, ka, ra, oa⟩ := dk_of I.hok ha
  obtain ⟨_, db, kb, rb, ob⟩ := dk_of I.hok hb
  have l1 : kvs.length = ka.length := Paired.length ra
  have l2 : more.length = kb.length := Paired.length rb
  have go := meets_dict_update (mixKind X.prog X.w) a b ab db
  refine call_meetsIn PySem.F.slot_dict_update oa.typeIs PySem.F.entry_dict_update (PySem.F.args_dict_update_2 _ _) go ⟨ka, kb, oa, ob, by omega, fun h' n1 n2 sb => ?_⟩
  have there : ∃ o, h'.get? a = some o := by obtain ⟨o, _, _, z, _⟩ := n1; exact ⟨o, z⟩
  have sz' : (mergeK kvs more).length ≤ sizeLine := Nat.le_trans (length_mergeK more kvs) sz
  exact ⟨.non, _, d_write (t' := s.toks) I (by rw [ha]; exact True.intro) sb there (dk_new sz' da (KV.merge rb ra) n1), rfl, q⟩
def mUpdate (x : D) (xs : List D) (S : Sto) : R D := match x, xs with
  | .ref n, [.ref m] => (match S[n]?, S[m]? with
    | some (.dK kvs), some (.dK more) => if n ≠ m ∧ small (kvs.length + more.length) = true then .ok .non (S.set n (.dK (mergeD kvs more))) else .bad
    | _, _ => .bad)
  | _, _ => .bad
theorem update_ok : MdN X W rDUpd mUpdate := fun σ H ι S x xs v vs Q rp dx dxs h => by
  unfold mUpdate at h
  split at h
  · rename_i n m
    cases dx with
    | @ref _ a hn =>
      cases dxs with
      | cons d1 d2 =>
        cases d2
        cases d1 with
        | @ref _ b hm =>
          split at h
          · rename_i kvs more h1 h2
            split at h
            · rename_i hc
              obtain ⟨kw, q1, q2⟩ := rp.dK h1 hn
              obtain ⟨mw, q3, q4⟩ := rp.dK h2 hm
              have ab : a ≠ b := fun z => hc.1 ((List.getElem?_inj (List.getElem?_eq_some_iff.mp hn).1 rp.nd).mp (by rw [hn, hm, z]))
              have sz : kw.length + mw.length ≤ sizeLine := by rw [← q2.length, ← q4.length]; simpa [small] using hc.2
              exact ⟨a, b, kw, mw, rfl, rfl, q1, q3, ab, sz, h ι _ _ (rp.ext_write h1 rfl hn _) (rp.write h1 rfl hn (.dK (DP.merge q4 q2))) .non⟩
            · exact h.elim
          · exact h.elim
  · exact h.elim
theorem de_update {fs : Env → Sto → R (List D)} (ho : PE X o (tD X.K fo W)) (ha : PA X [e] (tAr X.K fs W)) (hbase : attributeBase o "update" X.env (eval o X.env) = eval o X.env := by rfl)
    (hfew : ((backTo cpos (starEach [e] X.env)).all (fun x => !x.1) && (backToKw cpos (keywordEach [] X.env)).all (fun x => x.1.isSome)
      && decide (([e] : List Expr).length + ([] : List Keyword).length + (if ([] : List Keyword).isEmpty then 0 else 1) < 30)) = true := by rfl)
    (hline : (apos.endLine == cpos.line) = true := by rfl) (hs : starEach [e] X.env = (false, eval e X.env) :: starEach [] X.env := by rfl) : PE X (.Call (.Attribute o "update" apos) [e] [] cpos) (tD X.K (eBm "dict" fo fs mUpdate) W) :=
  de_bm PySem.F.plainAttrs_dict PySem.F.slot_dict_update PySem.F.type_dict_update mt_dupdate update_ok ho ha hbase hfew hline hs rfl
end
end DL

namespace DL
open PySem PySem.Spec PyProof.Rows L2

/-! ### constants of the module: a tuple of texts, a dict of texts to whole numbers -/
structure TupC (M : Mod) (x : Str) (ys : List Str) : Prop where
  ex : ∃ (a : Addr) (o : Obj) (its : Array Value) (n : Nat), M.mg x = some (.ref a) ∧ M.K.lookup a = some o ∧ o.cls = .type "tuple" ∧ o.dict = none ∧ o.data = .seq its n ∧ its.size ≤ sizeLine ∧ Vals (ys.map V.str) its.toList
structure DctC (M : Mod) (x : Str) (ys : List (Str × Int)) : Prop where
  ex : ∃ (a : Addr) (es : Array DictEntry) (n : Nat), M.mg x = some (.ref a) ∧ M.K.lookup a = some ⟨.type "dict", none, .dict es n, #[]⟩ ∧ PySem.W.KeysLit M.w.params es.toList ∧ (a == sysModules) = false ∧
    Paired (fun (p : Str × Int) (e : DictEntry) => (∃ t, e.key = .str p.1 t) ∧ ∃ t, e.val = .int p.2 t) ys es.toList
def eTIx (ys : List Str) (fs : Env → Sto → R (List D)) : Env → Sto → R D := fun env S => (fs env S).bind fun xs S1 => match xs with
  | [.str z] => if z ∈ ys then .ok (.int (ys.idxOf z : Nat)) S1 else .bad
  | _ => .bad
def eCGet (ys : List (Str × Int)) (fe fi : Env → Sto → R D) : Env → Sto → R D := fun env S => (fe env S).bind fun d S1 => (fi env S1).bind fun z S2 => match d with
  | .str x => .ok (match ys.lookup x with | some i => .int i | none => z) S2
  | _ => .bad
theorem idx_first {z : Str} : ∀ {ys : List Str}, z ∈ ys → ys[ys.idxOf z]? = some z ∧ ∀ m, m < ys.idxOf z → ys[m]? ≠ some z
  | y :: ys, h => by
    by_cases e : y = z
    · subst e
      simp
    · have hb : (y == z) = false := by simpa using e
      have m : z ∈ ys := by
        rcases List.mem_cons.mp h with q | q
        · exact absurd q.symm e
        · exact q
      obtain ⟨h1, h2⟩ := idx_first m
      rw [List.idxOf_cons, hb]
      refine ⟨by simpa using h1, fun k hk => ?_⟩
      cases k with
      | zero => simpa using e
      | succ k => simpa using h2 k (by simpa using hk)
theorem find_lit {x : Str} : ∀ {ys : List (Str × Int)} {l : List DictEntry}, Paired (fun (p : Str × Int) (e : DictEntry) => (∃ t, e.key = .str p.1 t) ∧ ∃ t, e.val = .int p.2 t) ys l →
    match ys.lookup x with | some i => ∃ e t, l.find? (fun e => Value.isStrOf x e.key) = some e ∧ e.val = .int i t | none => l.find? (fun e => Value.isStrOf x e.key) = none
  | _, _, .nil => rfl
  | (y, i) :: ys, e :: l, .cons ⟨⟨t, h1⟩, t2, h2⟩ r => by
    have ih := find_lit (x := x) r
    have hk : Value.isStrOf x e.key = (x == y) := by
      rw [h1]
      show (y == x) = (x == y)
      exact Bool.beq_comm
    rw [List.lookup_cons, List.find?_cons, hk]
    cases q : x == y with
    | true => exact ⟨e, t2, rfl, h2⟩
    | false => exact ih
section
variable {M : Mod} {X : Cx} {W : WX} {k : Nat} {N : List Str} {vis loc : List Nat} {gls : List Str} {e f : Expr} {x : Str} {q apos cpos : Pos} {fe fi : Env → Sto → R D} {fs : Env → Sto → R (List D)} {ys : List Str} {zs : List (Str × Int)}
theorem de_tix (c : Ctx X W k N vis loc gls) (md : Md M X) (T : TupC M x ys) (ha : PA X [e] (tAr X.K fs W)) (hg : gls.contains x = true := by decide +kernel) (hd : (x == ("__debug__" : Str)) = false := by decide +kernel) (hbase : attributeBase (.Name x q) "index" X.env (eval (.Name x q) X.env) = eval (.Name x q) X.env := by rfl)
    (hfew : ((backTo cpos (starEach [e] X.env)).all (fun x => !x.1) && (backToKw cpos (keywordEach [] X.env)).all (fun x => x.1.isSome)
      && decide (([e] : List Expr).length + ([] : List Keyword).length + (if ([] : List Keyword).isEmpty then 0 else 1) < 30)) = true := by rfl)
    (hline : (apos.endLine == cpos.line) = true := by rfl) (hs : starEach [e] X.env = (false, eval e X.env) :: starEach [] X.env := by rfl) : PE X (.Call (.Attribute (.Name x q) "index" apos) [e] [] cpos) (tD X.K (eTIx ys fs) W) := by
  obtain ⟨a, o, its, n, h1, h2, h3, h4, h5, h6, h7⟩ := T.ex
  rw [← md.K] at h2
  have ho : PE X (.Name x q) (tC (.ref a)) := pe_glob (c.hg x (by simpa using hg)) (md.some h1) rfl hd
  refine PE.imp (pe_bm PySem.F.plainAttrs_tuple PySem.F.slot_tuple_index PySem.F.type_tuple_index mt_tup_index ho ha hbase hfew hline hs rfl) fun σ H Q ⟨ι, env, S, rp, en, h⟩ => ?_
  refine (show _ ∧ _ from ⟨.inr (.inl ⟨rfl, o, h2, h3, h4⟩), ι, env, S, rp, en, (ends.bind h).imp fun v H1 ⟨ι1, xs, S1, _, e1, r1, d1, hh⟩ => ?_⟩)
  split at hh
  · rename_i z _
    split at hh
    · rename_i hz
      cases d1 with
      | cons da db =>
        cases db
        cases da
        obtain ⟨i1, i2⟩ := idx_first hz
        exact ⟨a, ys, z, ys.idxOf z, rfl, rfl, .inr ⟨o, its, n, h2, h3, h5, h6, h7⟩, i1, i2, hh ι1 H1 _ (Ext.refl _ _) r1 (.int _)⟩
    · exact hh.elim
  · exact hh.elim
theorem de_cget (c : Ctx X W k N vis loc gls) (md : Md M X) (T : DctC M x zs) (he : PE X e (tD X.K fe W)) (hi : PE X f (tD X.K fi W)) (hg : gls.contains x = true := by decide +kernel) (hd : (x == ("__debug__" : Str)) = false := by decide +kernel) (m : M2 X (.Name x q) "get" apos e f cpos := by exact ⟨rfl, rfl, rfl, rfl⟩) :
    PE X (.Call (.Attribute (.Name x q) "get" apos) [e, f] [] cpos) (tD X.K (eCGet zs fe fi) W) := by
  obtain ⟨a, es, n, h1, h2, h3, h4, h5⟩ := T.ex
  rw [← md.K] at h2
  rw [← md.w] at h3
  have ho : PE X (.Name x q) (tC (.ref a)) := pe_glob (c.hg x (by simpa using hg)) (md.some h1) rfl hd
  refine ⟨fun pins s σ H Q I ⟨ι, env, S, rp, en, h⟩ => ?_⟩
  refine wpAny_Call_method m.base m.few m.line PySem.F.plainAttrs_dict PySem.F.slot_dict_get PySem.F.type_dict_get (thn (ho.run pins s σ H (fun v H1 => v = .ref a ∧ H1 = H) I ⟨rfl, rfl⟩) fun u s1 ⟨v, H1, I1, rx, e1, e2⟩ => ?_)
  subst e1
  subst e2
  obtain rfl : u = Value.ref a := rx
  have mo := PySem.W.mapOf_K (prog := X.prog) (w := X.w) I1.kIn h2 h3
  refine ⟨mo.typeIs, mo.noDict, ?_⟩
  rw [m.trees]
  refine Calls.callWith_builtin rfl (Calls.evalArgs_plain (Calls.spliced_cons (thn (he.run pins s1 σ H1 _ I1 ⟨ι, env, S, rp, en, ends.bind h⟩) fun iv s2 ⟨y, H2, I2, ry, ι2, y', S2, _, e2, r2, d2, h2'⟩ =>
    Calls.spliced_cons (thn (hi.run pins s2 σ H2 _ I2 ⟨ι2, env, S2, r2, en.mono e2.toGr, ends.bind h2'⟩) fun fv s3 ⟨z, H3, I3, rz, ι3, z', S3, _, e3, r3, d3, h3'⟩ => Calls.spliced_nil ?_))))
  split at h3'
  · rename_i x' _ _
    cases d2
    obtain ⟨t, rfl⟩ := ry
    have mo3 := PySem.W.mapOf_K (prog := X.prog) (w := X.w) I3.kIn h2 h3
    refine call_meetsIn PySem.F.slot_dict_get mo3.typeIs PySem.F.entry_dict_get (PySem.F.args_dict_get_3 _ _ _) (meets_dict_get_default (strKind X.prog X.w) a (strKind_is X.prog X.w x' t) h4 fv) ⟨_, mo3, ?_⟩
    have fl := find_lit (x := x') h5
    have fb : findBy Value.isStrOf es x' = (es.toList.find? fun e => Value.isStrOf x' e.key).map (·.val) := by
      unfold findBy
      rw [Array.find?_toList]
    split at h3'
    · rename_i i hl
      rw [hl] at fl
      obtain ⟨e', t', q1, q2⟩ := fl
      rw [fb, q1]
      exact ⟨.int i, H3, I3.tok _, ⟨t', by rw [← q2]; rfl⟩, h3' ι3 H3 _ (Ext.refl _ _) r3 (.int i)⟩
    · rename_i hl
      rw [hl] at fl
      rw [fb, show es.toList.find? (fun e => Value.isStrOf x' e.key) = none from fl]
      exact ⟨z, H3, I3.tok _, rz, h3' ι3 H3 _ (Ext.refl _ _) r3 d3⟩
  · exact h3'.elim
end
end DL

namespace DL
open PySem PySem.Spec PyProof.Rows L2

/-! ### sorted(d.items()), d from whole numbers to whole numbers -/
def iiK (p : Int × Int) : List Key := [.inl p.1, .inl p.2]
def iiOf : List (Key × D) → Option (List (Int × Int))
  | [] => some []
  | (.inl i, .int j) :: r => (iiOf r).map ((i, j) :: ·)
  | _ => none
def lSIt (fo : Env → Sto → R D) : Env → Sto → R (List D) := fun env S => (fo env S).bind fun x S1 => match x with
  | .ref n => (match S1[n]? with
    | some (.dK kvs) => (R.ofO (iiOf kvs) S1).bind fun ks S2 => if small ks.length then .ok (((ks.map iiK).mergeSort tLe).map tuD) S2 else .bad
    | _ => .bad)
  | _ => .bad
section
variable {X : Cx}
def rItemsK : V → List V → Hp → VK → Prop := fun x xs H Q => ∃ (a : Addr) (kvs : List (Key × V)), x = .ref a ∧ xs = [] ∧ H a = some (.dK kvs) ∧ ∀ p, H p = none → Q (.ref p) (upd H p (DX.itemsO p a))
theorem mt_itemsK : MtR X "dict.items" rItemsK := by
  intro pins s σ H x xs v us Q I rx rxs h
  obtain ⟨a, kvs, rfl, rfl, ha, q⟩ := h
  cases rx
  cases rxs
  obtain ⟨_, low, vs, rel, o, es, ep, ho, hx, hdat, _⟩ := dk_of I.hok ha
  refine DT.callItems low ⟨o, ho, hx, hdat⟩ ?_
  have fresh := I.hok.fresh (Nat.le_refl s.heap.objs.size)
  exact ⟨.ref s.heap.objs.size, _, I.laid (t' := s.toks) (fun _ _ e => Heap.get?_push_of_some _ e) (Nat.le_refl _) (DX.itemsO_ok (Heap.get?_push_size _ rfl)), rfl, q _ fresh⟩
def ienc (b : Addr × Int × Int) : PyData := .tuple [.int b.2.1, .int b.2.2]
def ivs (b : Addr × Int × Int) : List V := [.int b.2.1, .int b.2.2]
def rSortIK : List V → Hp → VK → Prop := fun vs H Q => ∃ (p a : Addr) (ks : List (Int × Int)), vs = [.ref p] ∧ H p = some (DX.itemsO p a) ∧ H a = some (.dK (ks.map fun e => (.inl e.1, .int e.2))) ∧ ks.length ≤ sizeLine ∧
  ∀ (H2 : Hp) (L : Addr) (zs : List (Addr × Int × Int)), (∀ b o, H b = some o → H2 b = some o) → H L = none → zs.map (fun z => iiK z.2) = (ks.map iiK).mergeSort tLe → H2 L = some (.lst (zs.map fun z => V.ref z.1)) → (∀ z ∈ zs, H2 z.1 = some (.tup (ivs z))) → Q (.ref L) H2
theorem int_pairs {ks : List (Int × Int)} {vs : List (Key × Value)} (h : KV (ks.map fun e => ((.inl e.1 : Key), V.int e.2)) vs) {i : Nat} {k : Key} {v : Value} (e : vs[i]? = some (k, v)) : ∃ p t, ks[i]? = some p ∧ k = .inl p.1 ∧ v = .int p.2 t := by
  induction ks generalizing vs i with
  | nil => cases h; simp at e
  | cons p ks ih =>
    cases h with
    | cons h1 h2 =>
      cases i with
      | zero =>
        simp at e
        subst e
        obtain ⟨e1, t, e2⟩ := h1
        exact ⟨p, t, rfl, e1.symm, e2⟩
      | succ i => exact ih h2 (by simpa using e)
theorem zip_get {as : List Addr} {ks : List (Int × Int)} {b : Addr × Int × Int} (h : b ∈ as.zip ks) : ∃ i : Nat, as[i]? = some b.1 ∧ ks[i]? = some b.2 := by
  obtain ⟨i, e⟩ := List.mem_iff_getElem?.mp h
  rw [List.getElem?_zip_eq_some] at e
  exact ⟨i, e⟩
theorem each_zip {R : Value → Addr × Int × Int → Prop} : ∀ {as : List Addr} {ks : List (Int × Int)}, as.length = ks.length → (∀ b ∈ as.zip ks, R (.ref b.1) b) → PySem.W.EachIs R (as.map Value.ref) (as.zip ks)
  | [], [], _, _ => .nil
  | [], _ :: _, h, _ => by cases h
  | _ :: _, [], h, _ => by cases h
  | a :: as, k :: ks, h, f => .cons (f (a, k) (by simp)) (each_zip (by simpa using h) fun b hb => f b (by rw [List.zip_cons_cons]; exact List.mem_cons_of_mem _ hb))
theorem each_refs : ∀ {out : List Value} {bs : List (Addr × Int × Int)}, PySem.W.EachIs (fun u (b : Addr × Int × Int) => u = .ref b.1) out bs → Vals (bs.map fun z => V.ref z.1) out
  | _, _, .nil => .nil
  | _, _, .cons e r => .cons e (each_refs r)
theorem ienc_t (b : Addr × Int × Int) : ienc b = tpy (iiK b.2) := rfl
theorem cr_sortIK (hc : X.calm = true) (hu : X.A.units + 70 < cLine) : CallR X (.builtin "sorted") rSortIK := by
  intro pins s σ H xs us Q I r h
  obtain ⟨p, a, ks, rfl, hp, ha, hz, q⟩ := h
  rw [Vals.ref1 r]
  have view : s.heap.IsItemsView p a := (show ObjOk X.prog X.w H s.heap p (DX.itemsO p a) from I.hok p _ hp).1
  obtain ⟨_, low, vs, rel, o, es, ep, ho, hx, hdat, hk, hpr, hn⟩ := dk_of I.hok ha
  have l1 : ks.length = vs.length := by have := Paired.length rel; rwa [List.length_map] at this
  have l2 : es.size = vs.length := by rw [← hpr.length]; simp
  refine DT.sortedI (es := es) (ep := ep) (I.ok.hd hc) view ⟨o, ho, hx, hdat⟩ (by omega) fun h' tk as hk' hlt hl hG => ?_
  have lak : as.length = ks.length := by omega
  have nd : as.Nodup := List.Pairwise.imp (fun h => Nat.ne_of_lt h) hG.rise
  have made : ∀ b ∈ as.zip ks, ∃ t t', h'.get? b.1 = some { cls := .type "tuple", data := .seq #[Value.int b.2.1 t, Value.int b.2.2 t'] } := fun b hb => by
    obtain ⟨i, i1, i2⟩ := zip_get hb
    obtain ⟨e, e1, e2⟩ := hG.pairs i b.1 i1
    have hi : i < vs.length := by rw [← l1]; exact (List.getElem?_eq_some_iff.mp i2).1
    obtain ⟨pk, t, p1, p2, p3⟩ := int_pairs rel (i := i) (k := vs[i].1) (v := vs[i].2) (List.getElem?_eq_getElem hi)
    rw [i2] at p1
    cases p1
    obtain ⟨z1, z2⟩ := hpr.get? (i := i) (e := e) (k := vs[i].1) (v := vs[i].2) (by rw [← e1]; simp) (List.getElem?_eq_getElem hi)
    rw [p2] at z1
    have rk : RelV (kV (.inl b.2.1)) e.key := relV_key z1
    obtain ⟨t1, rk⟩ := (show ∃ t, e.key = Value.int b.2.1 t from rk)
    exact ⟨t1, t, by rw [e2, rk, z2, p3]⟩
  have hob : (h'.push { cls := .type "list", data := .seq (as.map Value.ref).toArray }).get? h'.objs.size = some (seqObj "list" (as.map Value.ref).toArray 0) := Heap.get?_push_size _ rfl
  have kp : ∀ b o, h'.get? b = some o → (h'.push { cls := .type "list", data := .seq (as.map Value.ref).toArray }).get? b = some o := fun b o e => Heap.get?_push_of_some _ e
  refine PySem.W.list_sort_data (R := fun u (b : Addr × Int × Int) => u = .ref b.1) (enc := ienc) (bs := as.zip ks) hob (each_zip lak fun _ _ => rfl) (each_zip lak fun b hb => ?_) (fun d hd d' hd' => ?_) (.inl fun d hd => ?_) (by rw [List.length_zip, lak, Nat.min_self]; exact hz) (fun b hb => ?_) fun out ho2 he => ?_
  · obtain ⟨t, t', e⟩ := made b hb
    exact ⟨[], .tuple (kp _ _ e) rfl rfl (.cons (.int _ _) (.cons (.int _ _) .nil)), by simp⟩
  · obtain ⟨b, _, rfl⟩ := List.mem_map.mp hd
    obtain ⟨b', _, rfl⟩ := List.mem_map.mp hd'
    exact alikeAll_k (xs := iiK b.2) (ys := iiK b'.2) rfl
  · obtain ⟨b, _, rfl⟩ := List.mem_map.mp hd
    exact ⟨_, _, rfl⟩
  · have : (ienc b).depth = 1 := depth_t (iiK b.2)
    show X.A.in1.units + 1 + (ienc b).depth < cLine
    have : X.A.in1.units = X.A.units + 1 := rfl
    omega
  · obtain ⟨eF, heF⟩ := PyProof.Rows.sortedHeap_at (vs := as.map Value.ref) (out := out.toArray) hob
    have ne0 : ∀ b o, h'.get? b = some o → b ≠ h'.objs.size := fun b o e => Nat.ne_of_lt (Heap.lt_size e)
    have kF : ∀ b o, h'.get? b = some o → (sortedHeap (h'.push { cls := .type "list", data := .seq (as.map Value.ref).toArray }) h'.objs.size (as.map Value.ref) out.toArray).get? b = some o := fun b o e =>
      (PyProof.Rows.sortedHeap_old (ne0 b o e) (Heap.lt_size (kp b o e))).trans (kp b o e)
    have zp := List.mergeSort_perm (as.zip ks) (PySem.W.dataLe false ienc)
    have I1 : Inv X pins σ H { s with heap := sortedHeap (h'.push { cls := .type "list", data := .seq (as.map Value.ref).toArray }) h'.objs.size (as.map Value.ref) out.toArray, toks := tk } := I.kept (t' := tk) fun b o e => kF b o (hk' b o e)
    have hn0 : H h'.objs.size = none := I.hok.fresh (Nat.le_of_lt hlt)
    have len : (((as.zip ks).mergeSort (PySem.W.dataLe false ienc)).map fun z => V.ref z.1).length ≤ sizeLine := by rw [List.length_map, List.length_mergeSort, List.length_zip, lak, Nat.min_self]; exact hz
    have I2 := I1.take (h' := sortedHeap (h'.push { cls := .type "list", data := .seq (as.map Value.ref).toArray }) h'.objs.size (as.map Value.ref) out.toArray) (t' := tk) (fun _ _ _ e => e) (I.fpOk (Nat.le_of_lt hlt) hn0)
      (o := .lst (((as.zip ks).mergeSort (PySem.W.dataLe false ienc)).map fun z => V.ref z.1)) ⟨len, out, eF, each_refs he, heF⟩
    obtain ⟨H2, I3, g, qt⟩ := DX.takeT (P := fun b vs => ∃ (i : Nat) (pr : Int × Int), as[i]? = some b ∧ ks[i]? = some pr ∧ vs = [.int pr.1, .int pr.2]) I as _ I2 nd fun b hb => by
      obtain ⟨i, hi⟩ := List.mem_iff_getElem?.mp hb
      have hik : i < ks.length := by rw [← lak]; exact (List.getElem?_eq_some_iff.mp hi).1
      have m : (b, ks[i]) ∈ as.zip ks := List.mem_iff_getElem?.mpr ⟨i, by rw [List.getElem?_zip_eq_some]; exact ⟨hi, List.getElem?_eq_getElem hik⟩⟩
      obtain ⟨t, t', e⟩ := made _ m
      have up := Nat.le_of_lt (hG.above b hb)
      refine ⟨up, by rw [upd_ne (ne0 _ _ e)]; exact I.hok.fresh up, _, ⟨i, ks[i], hi, List.getElem?_eq_getElem hik, rfl⟩, fun H3 => ⟨by rw [sizeLine_eq]; show 2 ≤ _; decide, [.int ks[i].1 t, .int ks[i].2 t'], .cons ⟨_, rfl⟩ (.cons ⟨_, rfl⟩ .nil), ⟨_, kF _ _ e, rfl, 0, rfl⟩⟩⟩
    refine ⟨.ref h'.objs.size, H2, I3, rfl, q H2 h'.objs.size ((as.zip ks).mergeSort (PySem.W.dataLe false ienc)) (fun b o e => g b o (by rw [upd_ne (ne_of_none e hn0)]; exact e)) hn0 ?_ (g _ _ upd_same) fun z hzm => ?_⟩
    · have e1 : ((as.zip ks).mergeSort (PySem.W.dataLe false ienc)).map (fun z => iiK z.2) = ((as.zip ks).map fun z => iiK z.2).mergeSort tLe := List.map_mergeSort fun x _ y _ => by
        show (!(PySem.W.dataLt (tpy (iiK y.2)) (tpy (iiK x.2)))) = !(tLt (iiK y.2) (iiK x.2))
        rw [dataLt_t rfl]
      rw [e1]
      congr 1
      have e2 : (as.zip ks).map (fun z => iiK z.2) = ((as.zip ks).map (·.2)).map iiK := by rw [List.map_map]; rfl
      rw [e2, List.map_snd_zip (by omega)]
    · obtain ⟨i, i1, i2⟩ := zip_get (zp.mem_iff.mp hzm)
      obtain ⟨vs', ⟨j, pr, j1, j2, rfl⟩, hH⟩ := qt z.1 (List.mem_of_getElem? i1)
      have ij := (List.getElem?_inj (List.getElem?_eq_some_iff.mp i1).1 nd).mp (i1.trans j1.symm)
      subst ij
      rw [i2] at j2
      cases j2
      exact hH
end
section
variable {X : Cx} {W : WX} {k : Nat} {N : List Str} {vis loc : List Nat} {gls : List Str} {o : Expr} {p apos cpos pos : Pos} {fo : Env → Sto → R D}
theorem iiOf_ok {K : PySem.W.Frag} {H : Hp} {ι : List Addr} : ∀ {kvs : List (Key × D)} {kws : List (Key × V)} {ks : List (Int × Int)}, DP K H ι kvs kws → iiOf kvs = some ks → kws = ks.map fun e => ((.inl e.1 : Key), V.int e.2)
  | [], _, ks, .nil, h => by cases h; rfl
  | (q, d) :: r, _, ks, .cons hd hr, h => by
    unfold iiOf at h
    split at h
    · rename_i e; cases e
    · rename_i i j r' e
      cases e
      obtain ⟨ks', e1, rfl⟩ := Option.map_eq_some_iff.mp h
      cases hd
      rw [iiOf_ok hr e1]
      rfl
    · cases h
theorem dvs_ivs {K : PySem.W.Frag} {H : Hp} {ι : List Addr} : ∀ {zs : List (Addr × Int × Int)}, (∀ z ∈ zs, H z.1 = some (.tup (ivs z))) → DVs K H ι (zs.map fun z => tuD (iiK z.2)) (zs.map fun z => V.ref z.1)
  | [], _ => .nil
  | z :: zs, h => .cons (.tup (h z (by simp)) (.cons (.int _) (.cons (.int _) .nil))) (dvs_ivs fun y hy => h y (List.mem_cons_of_mem _ hy))
theorem dl_sitems (c : Ctx X W k N vis loc gls) (ho : PE X o (tD X.K fo W)) (hm : X.mg "sorted" = none) (hg : gls.contains ("sorted" : Str) = true := by decide +kernel) (hbase : attributeBase o "items" X.env (eval o X.env) = eval o X.env := by rfl) (hline : (apos.endLine == cpos.line) = true := by rfl)
    (hs : starEach [.Call (.Attribute o "items" apos) [] [] cpos] X.env = (false, eval (.Call (.Attribute o "items" apos) [] [] cpos) X.env) :: starEach [] X.env := by rfl) :
    PE X (.Call (.Name "sorted" p) [.Call (.Attribute o "items" apos) [] [] cpos] [] pos) (tTm X.K (lSIt fo) W) := by
  have hv : bootBuiltins "sorted" = some (.builtin "sorted") := by decide +kernel
  have hu := c.hr.un
  refine PE.imp (pe_callB (cr_sortIK c.calm (by omega)) (c.hg "sorted" (by simpa using hg)) hm hv (pa_cons (pe_bm0 PySem.F.plainAttrs_dict PySem.F.slot_dict_items PySem.F.type_dict_items mt_itemsK ho hbase hline) pa_nil hs) (by decide +kernel) (by decide +kernel) hs rfl) fun σ H Q ⟨ι, env, S, r, en, h⟩ => ⟨ι, env, S, r, en, (ends.bind h).imp fun v H1 ⟨ι1, x, S1, e0, e1, r1, d1, h1⟩ => ?_⟩
  cases d1 with
  | @ref n a hn =>
    simp only at h1
    split at h1
    · rename_i kvs hs1
      obtain ⟨kws, q1, q2⟩ := r1.dK hs1 hn
      obtain ⟨ks, e2, h2⟩ := ofO_end h1
      have ew := iiOf_ok q2 e2
      subst ew
      split at h2
      · rename_i hz
        have hz' : ks.length ≤ sizeLine := by simpa [small] using hz
        refine (show _ ∧ _ from ⟨.inr (.inr (.inl ⟨rfl, .inl ⟨_, q1⟩⟩)), a, _, rfl, rfl, q1, fun w nw => ?_⟩)
        have na : a ≠ w := ne_of_none q1 nw
        refine ⟨w, a, ks, rfl, upd_same, by rw [upd_ne na]; exact q1, hz', fun H2 L zs kp nL ez hL hzs => ?_⟩
        have kp1 : ∀ b o, H1 b = some o → H2 b = some o := fun b o e => kp b o (by rw [upd_ne (ne_of_none e nw)]; exact e)
        have nL1 : H1 L = none := by
          cases q : H1 L with
          | none => rfl
          | some o => rw [upd_ne (ne_of_none q nw), q] at nL; cases nL
        have dv := dvs_ivs (K := X.K) (ι := ι1) hzs
        have exs : (zs.map fun z => tuD (iiK z.2)) = (((ks.map iiK).mergeSort tLe).map tuD) := by rw [← ez, List.map_map]; rfl
        rw [exs] at dv
        exact h2 ι1 H2 _ (Ext.keep kp1) (r1.keep kp1) ⟨L, _, rfl, e1.was nL1, hL, dv, r1.free nL1⟩
      · exact h2.elim
    · exact h1.elim
  | _ => exact h1.elim
end
end DL

/-! sum of a tuple of whole numbers -/
namespace DL
open PySem PySem.Spec PyProof.Rows L2

section
variable {prog : Program} {w : World} {A : Around} {E : Value → Shared → Prop} {s : Shared} {l : Addr} {its : List Value} {ns : List Int} {Q : Value → Shared → Prop}
theorem sum_tup (hh : A.handled = none) (hl : s.heap.IsTuple l its.toArray) (hi : IntsAre its ns)
    (h : ∀ h' tk t', (∀ b o, s.heap.get? b = some o → h'.get? b = some o) → Q (.int ns.sum t') { s with heap := h', toks := tk }) : wpAny (model prog w) A (call (.builtin "sum") [.ref l]) Q E s := by
  obtain ⟨xs, e⟩ := hi.allInts.items
  have hn : numsOf (intItems xs).toList = ns := by rw [← e]; exact hi.numsOf
  rw [nums_intItems] at hn
  rw [e] at hl
  have hlt : l < s.heap.objs.size := by obtain ⟨_, e, _⟩ := hl; exact Heap.lt_size e
  have hp : ∀ b o, s.heap.get? b = some o → (s.heap.push { cls := .type "tuple_iterator", data := .fields #[.ref l, .int 0 0] }).get? b = some o := fun b o e => Heap.get?_push_of_some _ e
  refine call_sum_walkG (wpAny_pyIter_tuple hl ⟨_, [s.heap.objs.size, l], [s.heap.objs.size], _, _, _, numAt xs, rfl, Walks.tuple (A := A.in1) hh _ l (Nat.ne_of_lt hlt) (intItems xs), ⟨⟨_, Heap.get?_push_size _ rfl, rfl, rfl⟩, hl.at fun o e => hp _ _ e⟩, fun b hb => ?_, fun _ _ => intItems_at, fun h' tk t' hk => ?_⟩)
  · show b < (s.heap.push _).objs.size
    rw [Heap.size_push]
    rcases List.mem_cons.mp hb with rfl | hb
    · exact Nat.lt_succ_self _
    · rw [List.mem_singleton.mp hb]
      exact Nat.lt_succ_of_lt hlt
  · have := h h' tk t' fun b o eo => hk b o (fun m => by
      rw [List.mem_singleton.mp m] at eo
      exact Nat.lt_irrefl _ (Heap.lt_size eo)) (hp b o eo)
    rw [preSum_eq, List.take_of_length_le (by simp [intItems]), hn]
    exact this
end
section
variable {X : Cx} {W : WX} {k : Nat} {N : List Str} {vis loc : List Nat} {gls : List Str} {e : Expr} {p pos : Pos} {gl : Env → Sto → R LS}
def rSumT (K : PySem.W.Frag) : List V → Hp → VK → Prop := fun vs H Q => ∃ (a : Addr) (ns : List Int), vs = [V.ref a] ∧ SqT K H a (ns.map V.int) ∧ Q (.int ns.sum) H
theorem cr_sumT (hc : X.calm = true) : CallR X (.builtin "sum") (rSumT X.K) := by
  intro pins s σ H vs us Q I r h
  obtain ⟨a, ns, rfl, hs, q⟩ := h
  obtain ⟨its, rv, hl, _⟩ := I.tuple hs
  rw [Vals.ref1 r]
  exact sum_tup (I.ok.hd hc) hl rv.ints fun h' tk t' hk => ⟨.int _, H, I.kept hk, ⟨_, rfl⟩, q⟩
/-- sum(xs) of a tuple -/
def bSumT (l : LS) (S : Sto) : R D := match l with
  | .rf (.tup xs) => (R.ofO (intsOf xs) S).bind fun ns S2 => .ok (.int ns.sum) S2
  | _ => .bad
theorem sumT_ok : Rd1 X W (rSumT X.K) bSumT := fun σ H0 H ι0 ι S l v Q e r d h => by
  unfold bSumT at h
  split at h
  · rename_i xs
    cases d with
    | tup hs dd =>
      obtain ⟨bs, hb, h'⟩ := ofO_end h
      have := intsOf_ok hb
      subst this
      have := dd.ints
      subst this
      exact ⟨_, bs, rfl, SqT.of hs, h' ι H _ (Ext.refl _ _) r (.int _)⟩
  · exact h.elim
theorem de_sumT (c : Ctx X W k N vis loc gls) (ha : PE X e (tLS X.K gl W)) (hm : X.mg "sum" = none) (hg : gls.contains ("sum" : Str) = true := by decide +kernel) (hs : starEach [e] X.env = (false, eval e X.env) :: starEach [] X.env := by rfl) : PE X (.Call (.Name "sum" p) [e] [] pos) (tD X.K (eB1 gl bSumT) W) := de_b1 c (cr_sumT c.calm) sumT_ok ha hm (by decide +kernel) hg (by decide +kernel) (by decide +kernel) hs
end
end DL

namespace DL
open PySem PySem.Spec PyProof.Rows L2

/-! ### d == e, dicts of ints -/
def intsK : List (Key × D) → Option (List (Key × Int))
  | [] => some []
  | (k, .int i) :: r => (intsK r).map ((k, i) :: ·)
  | _ => none
def getI (l : List (Key × Int)) (k : Key) : Option Int := (l.find? fun p => decide (p.1 = k)).map (·.2)
def eqK (k l : List (Key × Int)) : Bool := k.length == l.length && k.all fun p => decide (getI l p.1 = some p.2)
def dEqK (x y : D) (S : Sto) : R D := match x, y with
  | .ref n, .ref m => (match S[n]?, S[m]? with
    | some (.dK k), some (.dK l) => (match intsK k, intsK l with
      | some k', some l' => if (k'.map (·.1)).Nodup then .ok (.bl (eqK k' l')) S else .bad
      | _, _ => .bad)
    | _, _ => .bad)
  | _, _ => .bad
theorem intsK_dp {K : PySem.W.Frag} {H : Hp} {ι : List Addr} {k : List (Key × D)} {k' : List (Key × Int)} {vs : List (Key × V)} (h : intsK k = some k') (dp : DP K H ι k vs) : vs = k'.map fun p => (p.1, V.int p.2) := by
  induction dp generalizing k' with
  | nil => cases h; rfl
  | cons r t ih =>
    cases r with
    | int i =>
      rename_i key ds vs
      simp only [intsK] at h
      cases q : intsK ds with
      | none => rw [q] at h; cases h
      | some z =>
        rw [q] at h
        cases h
        rw [ih q]
        rfl
    | _ => cases h
theorem val_ints {k : List (Key × Int)} : ∀ {ws : List (Key × Value)}, KV (k.map fun p => (p.1, V.int p.2)) ws → ∀ key, (∀ y, PySem.valueAt ws key = some y → ∃ (j : Int) (t : Tok), y = .int j t ∧ getI k key = some j) ∧ ((PySem.valueAt ws key).isSome = (getI k key).isSome) := by
  induction k with
  | nil =>
    intro ws h key
    cases h
    exact ⟨fun y e => by simp [PySem.valueAt] at e, rfl⟩
  | cons p k ih =>
    intro ws h key
    cases h with
    | @cons _ w _ ws r t =>
      obtain ⟨w1, w2⟩ := w
      obtain ⟨h1, tk, h2⟩ := r
      simp only at h1 h2
      subst h1 h2
      by_cases e : p.1 = key
      · refine ⟨fun y hy => ⟨p.2, tk, ?_, ?_⟩, ?_⟩
        · simpa [PySem.valueAt, List.find?_cons, e] using hy.symm
        · simp [getI, List.find?_cons, e]
        · simp [PySem.valueAt, getI, List.find?_cons, e]
      · have a := ih t key
        have e1 : PySem.valueAt ((p.1, Value.int p.2 tk) :: ws) key = PySem.valueAt ws key := by simp [PySem.valueAt, List.find?_cons, e]
        have e2 : getI (p :: k) key = getI k key := by simp [getI, List.find?_cons, e]
        rw [e1, e2]
        exact a
theorem mem_ints {k : List (Key × Int)} : ∀ {ws : List (Key × Value)}, KV (k.map fun p => (p.1, V.int p.2)) ws → ∀ key v, (key, v) ∈ ws → ∃ (i : Int) (t : Tok), v = .int i t ∧ (key, i) ∈ k := by
  induction k with
  | nil => intro ws h key v m; cases h; cases m
  | cons p k ih =>
    intro ws h key v m
    cases h with
    | @cons _ w _ ws r t =>
      obtain ⟨w1, w2⟩ := w
      obtain ⟨h1, tk, h2⟩ := r
      simp only at h1 h2
      subst h1 h2
      rcases List.mem_cons.mp m with e | m
      · cases e
        exact ⟨p.2, tk, rfl, by simp⟩
      · obtain ⟨i, t', h3, h4⟩ := ih t key v m
        exact ⟨i, t', h3, List.mem_cons_of_mem _ h4⟩
theorem getI_mem {k : List (Key × Int)} (hn : (k.map (·.1)).Nodup) {key : Key} {i : Int} (m : (key, i) ∈ k) : getI k key = some i := by
  induction k with
  | nil => cases m
  | cons p k ih =>
    rw [List.map_cons, List.nodup_cons] at hn
    rcases List.mem_cons.mp m with e | m
    · subst e
      simp [getI, List.find?_cons]
    · have : p.1 ≠ key := fun e => hn.1 (List.mem_map.mpr ⟨_, m, e.symm⟩)
      have e2 : getI (p :: k) key = getI k key := by simp [getI, List.find?_cons, this]
      rw [e2]
      exact ih hn.2 m
theorem all_ints {k l : List (Key × Int)} (hn : (k.map (·.1)).Nodup) {ws us : List (Key × Value)} (h1 : KV (k.map fun p => (p.1, V.int p.2)) ws) (h2 : KV (l.map fun p => (p.1, V.int p.2)) us) :
    (ws.length == us.length && ws.all fun p => (PySem.valueAt us p.1).isSome && decide (getI k p.1 = getI l p.1)) = eqK k l := by
  have l1 : ws.length = k.length := by have := h1.length; simpa using this.symm
  have l2 : us.length = l.length := by have := h2.length; simpa using this.symm
  unfold eqK
  rw [l1, l2]
  congr 1
  have go : ∀ (m : List (Key × Int)) (zs : List (Key × Value)), KV (m.map fun p => (p.1, V.int p.2)) zs → (∀ p ∈ m, p ∈ k) → (zs.all fun p => (PySem.valueAt us p.1).isSome && decide (getI k p.1 = getI l p.1)) = m.all fun p => decide (getI l p.1 = some p.2) := by
    intro m
    induction m with
    | nil => intro zs h _; cases h; rfl
    | cons p m ih =>
      intro zs h hm
      cases h with
      | @cons _ w _ zs r t =>
        obtain ⟨w1, w2⟩ := w
        obtain ⟨e1, tk, e2⟩ := r
        simp only at e1 e2
        subst e1 e2
        simp only [List.all_cons]
        rw [ih zs t fun q hq => hm q (List.mem_cons_of_mem _ hq)]
        congr 1
        have g := getI_mem hn (key := p.1) (i := p.2) (hm p (by simp))
        rw [(val_ints h2 p.1).2, g]
        cases q : getI l p.1 with
        | none => simp
        | some j => simp [eq_comm]
  exact go k ws h1 fun p hp => hp
theorem cd_eqK {X : Cx} {W : WX} {k : Nat} {N : List Str} {vis loc : List Nat} {gls : List Str} (c : Ctx X W k N vis loc gls) : OpD X W (compareOp .Eq) dEqK := by
  have hu := c.hr.units
  intro pins s σ H ι S x y x' y' u v Q I rp dx dy rx ry q
  unfold dEqK at q
  split at q
  · rename_i n m
    split at q
    · rename_i kk ll hk hl
      split at q
      · rename_i k' l' ek el
        split at q
        · rename_i hn
          cases dx with
          | ref ha =>
            cases dy with
            | ref hb =>
              cases rx
              cases ry
              obtain ⟨vs, h1, d1⟩ := rp.dK hk ha
              obtain ⟨us, h2, d2⟩ := rp.dK hl hb
              rw [intsK_dp ek d1] at h1
              rw [intsK_dp el d2] at h2
              obtain ⟨_, sa, ws, kv1, do1⟩ := I.hok _ _ h1
              obtain ⟨_, sb, zs, kv2, do2⟩ := I.hok _ _ h2
              refine PySem.W.eq_dictsT (n := 0) (e := fun key => decide (getI k' key = getI l' key)) sa sb do1 do2 (fun key v y hm hv => ?_) (by omega) ?_
              · obtain ⟨i, t, rfl, mi⟩ := mem_ints kv1 key v hm
                obtain ⟨j, t2, rfl, gj⟩ := (val_ints kv2 key).1 y hv
                have e : decide (getI k' key = getI l' key) = (i == j) := by
                  rw [getI_mem hn mi, gj]
                  by_cases z : i = j <;> simp [z]
                show PySem.W.EqTree _ _ _ 0 _ _ (decide (getI k' key = getI l' key))
                rw [e]
                exact .leaf fun A _ => PySem.SeqAt.EqAt.int_int i t j t2
              · rw [all_ints hn kv1 kv2]
                exact ⟨.bl _, H, I, rfl, q ι H (.bl _) (Ext.refl _ _) rp (.bl _)⟩
        · exact q.elim
      · exact q.elim
    · exact q.elim
  · exact q.elim
end DL

/-! the defs of purses, rows, rules, things, the course, and the laws' own course (printed by gen.py, see mkdc1.py) -/
namespace DL
open PySem PySem.Spec PyProof.Rows L2
abbrev n_Purse_dinit : List Str := ["self"]
noncomputable def b_Purse_dinit (CPurse : Addr) : DL.Env → Sto → RS :=
  (sSeq (sFldS CPurse "ends" (eVar 0) eDNewK)
  (sFldS CPurse "debt" (eVar 0) (eC (.int 0))))
noncomputable def g_Purse_dinit (CPurse : Addr) : Fn := gOf n_Purse_dinit (b_Purse_dinit CPurse)
abbrev n_Purse_dlen : List Str := ["self"]
noncomputable def b_Purse_dlen (CPurse : Addr) : DL.Env → Sto → RS :=
  (sRet (eB1 (sRf (eFld CPurse "ends" (eVar 0))) bLen))
noncomputable def g_Purse_dlen (CPurse : Addr) : Fn := gOf n_Purse_dlen (b_Purse_dlen CPurse)
abbrev n_Purse_deq : List Str := ["self", "other"]
noncomputable def b_Purse_deq (CPurse : Addr) : DL.Env → Sto → RS :=
  (sRet (eAnd (fun env S => ((eVar 1) env S).bind (bIsC CPurse)) (eAnd (eBin dEqK (eFld CPurse "ends" (eVar 0)) (eFld CPurse "ends" (eVar 1))) (eBin dEq (eFld CPurse "debt" (eVar 0)) (eFld CPurse "debt" (eVar 1))))))
noncomputable def g_Purse_deq (CPurse : Addr) : Fn := gOf n_Purse_deq (b_Purse_deq CPurse)
abbrev n_Purse_lots : List Str := ["self"]
noncomputable def b_Purse_lots (CPurse : Addr) : DL.Env → Sto → RS :=
  (sRet (eNew (eB1 (sTm (lItems (eFld CPurse "ends" (eVar 0)))) bSort)))
noncomputable def g_Purse_lots (CPurse : Addr) : Fn := gOf n_Purse_lots (b_Purse_lots CPurse)
abbrev n_Purse_has : List Str := ["self", "end"]
noncomputable def b_Purse_has (CPurse : Addr) : DL.Env → Sto → RS :=
  (sRet (eB1 (sTm (eLock (lockF 0 "ends") (lComp (fun env S => ((eFld CPurse "ends" (eVar 0)) env S).bind gIt) (aName 1) [1] bT (eBin dIx (eFld CPurse "ends" (eVar 0)) (eVar 1))))) bSum))
noncomputable def g_Purse_has (CPurse : Addr) : Fn := gOf n_Purse_has (b_Purse_has CPurse)
abbrev n_Purse_gain : List Str := ["self", "points", "end", "met"]
noncomputable def b_Purse_gain (CPurse : Addr) : DL.Env → Sto → RS :=
  (sSeq (sSet 3 (eB (aCons (eVar 1) (aCons (eFld CPurse "debt" (eVar 0)) aNil)) (g2 bMin2)))
  (sSeq (sFldA CPurse "debt" iSub (eVar 0) (eVar 3))
  (sIf (eTst (eBin dGt (eVar 1) (eVar 3))) (sPut (eFld CPurse "ends" (eVar 0)) (eVar 2) (eBin dSub (eBin dAdd (eGet2 (eFld CPurse "ends" (eVar 0)) (eVar 2) (eC (.int 0))) (eVar 1)) (eVar 3))) sNx)))
noncomputable def g_Purse_gain (CPurse : Addr) : Fn := gOf n_Purse_gain (b_Purse_gain CPurse)
abbrev n_Purse_put_out : List Str := ["self", "points", "found", "end", "here", "part"]
noncomputable def b_Purse_put_out (CPurse : Addr) : DL.Env → Sto → RS :=
  (sSeq (sNew 2 (lLst aNil))
  (sSeq (sFor (fun env S => ((eMeth CPurse "lots" 1 (g_Purse_lots CPurse) (eVar 0) aNil) env S).bind gIt) (aTup 2 (asCons (aName 3) (asCons (aName 4) asNil))) (sSeq (sSet 5 (eB (aCons (eVar 1) (aCons (eVar 4) aNil)) (g2 bMin2)))
  (sIf (eTst (eBin dGt (eVar 5) (eC (.int 0)))) (sSeq (sAug 1 iSub (eVar 5))
  (sSeq (sExp (eBm "list" (eVar 2) (aCons (eTup (aCons (eVar 3) (aCons (eVar 5) aNil))) aNil) mAppend))
  (sSeq (sPut (eFld CPurse "ends" (eVar 0)) (eVar 3) (eBin dSub (eVar 4) (eVar 5)))
  (sIf (eTst (eBin dEq (eVar 5) (eVar 4))) (sExp (eDPop (eFld CPurse "ends" (eVar 0)) (eVar 3))) sNx)))) sNx)))
  (sRet (eVar 2))))
noncomputable def g_Purse_put_out (CPurse : Addr) : Fn := gOf n_Purse_put_out (b_Purse_put_out CPurse)
abbrev n_Purse_pay : List Str := ["self", "points"]
noncomputable def b_Purse_pay (CPurse : Addr) : DL.Env → Sto → RS :=
  (sSeq (sIf (eTst (eBin dGt (eVar 1) (eMeth CPurse "has" 1 (g_Purse_has CPurse) (eVar 0) aNil))) (sRaiseF "Lacks" "only" (eMeth CPurse "has" 1 (g_Purse_has CPurse) (eVar 0) aNil)) sNx)
  (sRet (eMeth CPurse "put_out" 2 (g_Purse_put_out CPurse) (eVar 0) (aCons (eVar 1) aNil))))
noncomputable def g_Purse_pay (CPurse : Addr) : Fn := gOf n_Purse_pay (b_Purse_pay CPurse)
abbrev n_Purse_take_back : List Str := ["self", "points", "here"]
noncomputable def b_Purse_take_back (CPurse : Addr) : DL.Env → Sto → RS :=
  (sSeq (sSet 2 (eMeth CPurse "has" 1 (g_Purse_has CPurse) (eVar 0) aNil))
  (sSeq (sExp (eMeth CPurse "put_out" 2 (g_Purse_put_out CPurse) (eVar 0) (aCons (eVar 1) aNil)))
  (sFldA CPurse "debt" iAdd (eVar 0) (eB (aCons (eC (.int 0)) (aCons (eBin dSub (eVar 1) (eVar 2)) aNil)) (g2 bMax2)))))
noncomputable def g_Purse_take_back (CPurse : Addr) : Fn := gOf n_Purse_take_back (b_Purse_take_back CPurse)
abbrev n_Purse_end_at : List Str := ["self", "hour", "gone", "end", "points"]
noncomputable def b_Purse_end_at (CPurse : Addr) : DL.Env → Sto → RS :=
  (sSeq (sSet 2 (eC (.int 0)))
  (sSeq (sFor (fun env S => ((eMeth CPurse "lots" 1 (g_Purse_lots CPurse) (eVar 0) aNil) env S).bind gIt) (aTup 2 (asCons (aName 3) (asCons (aName 4) asNil))) (sIf (eTst (eBin (dOrd .LtE) (eVar 3) (eVar 1))) (sSeq (sAug 2 iAdd (eVar 4))
  (sExp (eDPop (eFld CPurse "ends" (eVar 0)) (eVar 3)))) sNx))
  (sRet (eVar 2))))
noncomputable def g_Purse_end_at (CPurse : Addr) : Fn := gOf n_Purse_end_at (b_Purse_end_at CPurse)
abbrev n_is_row : List Str := ["thing"]
noncomputable def b_is_row : DL.Env → Sto → RS :=
  (sSeq (sIf (bOr (bNot (eTru (fun env S => ((eVar 0) env S).bind (bIsi "tuple")))) (bOr (eTst (eBin (dOrd .Lt) (eB1 (sRf (eVar 0)) bLen) (eC (.int 3)))) (bNot (eTru (fun env S => ((eBin dIx (eVar 0) (eC (.int 0))) env S).bind (bIsi "str")))))) (sRet (eC (.bl false))) sNx)
  (sSeq (sIf (bOr (eTst (eBin dNe (eCGet [("give", 6), ("help", 4), ("worn", 3), ("lend", 5), ("hold", 5), ("take", 4)] (eBin dIx (eVar 0) (eC (.int 0))) (eC (.int 0))) (eB1 (sRf (eVar 0)) bLen))) (bOr (bNot (eTru (eCall 3 g_is_within (aCons (eBin dIx (eVar 0) (eC (.int 1))) (aCons (eC (.int 0)) (aCons (eC (.int 1000000000)) aNil)))))) (bNot (eTru (eCall 1 g_is_name (aCons (eBin dIx (eVar 0) (eC (.int 2))) aNil)))))) (sRet (eC (.bl false))) sNx)
  (sSeq (sIf (eTst (eBin dEq (eBin dIx (eVar 0) (eC (.int 0))) (eC (.str "give")))) (sRet (eAnd (eCall 1 g_is_name (aCons (eBin dIx (eVar 0) (eC (.int 3))) aNil)) (eAnd (eCall 1 g_is_name (aCons (eBin dIx (eVar 0) (eC (.int 4))) aNil)) (eCall 3 g_is_within (aCons (eBin dIx (eVar 0) (eC (.int 5))) (aCons (eC (.int 1)) (aCons (eC (.int 99)) aNil))))))) sNx)
  (sSeq (sIf (eTst (eBin dEq (eBin dIx (eVar 0) (eC (.int 0))) (eC (.str "help")))) (sRet (eCall 3 g_is_within (aCons (eBin dIx (eVar 0) (eC (.int 3))) (aCons (eC (.int 1)) (aCons (eC (.int 1000000)) aNil))))) sNx)
  (sSeq (sIf (eTst (eBin dEq (eBin dIx (eVar 0) (eC (.int 0))) (eC (.str "lend")))) (sRet (eAnd (eCall 1 g_is_name (aCons (eBin dIx (eVar 0) (eC (.int 3))) aNil)) (eAnd (eBin dNe (eBin dIx (eVar 0) (eC (.int 3))) (eBin dIx (eVar 0) (eC (.int 2)))) (eCall 3 g_is_within (aCons (eBin dIx (eVar 0) (eC (.int 4))) (aCons (eC (.int 1)) (aCons (eC (.int 1000000)) aNil))))))) sNx)
  (sSeq (sIf (eTst (eBin dEq (eBin dIx (eVar 0) (eC (.int 0))) (eC (.str "hold")))) (sRet (eAnd (eCall 1 g_is_name (aCons (eBin dIx (eVar 0) (eC (.int 3))) aNil)) (eCall 3 g_is_within (aCons (eBin dIx (eVar 0) (eC (.int 4))) (aCons (eC (.int 1)) (aCons (eC (.int 1000)) aNil)))))) sNx)
  (sRet (eOr (eBin dEq (eBin dIx (eVar 0) (eC (.int 0))) (eC (.str "worn"))) (eCall 1 g_is_name (aCons (eBin dIx (eVar 0) (eC (.int 3))) aNil))))))))))
noncomputable def g_is_row : Fn := gOf n_is_row (b_is_row)
abbrev n_are_rows : List Str := ["thing", "row"]
noncomputable def b_are_rows : DL.Env → Sto → RS :=
  (sSeq (sIf (bOr (bNot (eTru (fun env S => ((eVar 0) env S).bind (bIsi "list")))) (eTst (eBin dGt (eB1 (sRf (eVar 0)) bLen) (eC (.int 200))))) (sRet (eC (.bl false))) sNx)
  (sRet (eAnd (eB1 (sTm (lComp (fun env S => ((eVar 0) env S).bind gIt) (aName 1) [1] bT (eCall 1 g_is_row (aCons (eVar 1) aNil)))) bAll) (eBin dEq (eB1 (sRf (eVar 0)) bLenSet) (eB1 (sRf (eVar 0)) bLen)))))
noncomputable def g_are_rows : Fn := gOf n_are_rows (b_are_rows)
abbrev n_need_rows : List Str := ["rows"]
noncomputable def b_need_rows : DL.Env → Sto → RS :=
  (sIf (bNot (eTru (eCall 1 g_are_rows (aCons (eVar 0) aNil)))) (sRaise "NoRows") sNx)
noncomputable def g_need_rows : Fn := gOf n_need_rows (b_need_rows)
abbrev n_in_course : List Str := ["rows", "keyed", "row", "hour", "word"]
noncomputable def b_in_course : DL.Env → Sto → RS :=
  (sSeq (sNew 1 (eB1 (sTm (lComp (fun env S => ((eVar 0) env S).bind gIt) (aName 2) [2] bT (eTup (aCons (eBin dIx (eVar 2) (eC (.int 1))) (aCons (eTIx ["give", "help", "worn", "lend", "hold", "take"] (aCons (eBin dIx (eVar 2) (eC (.int 0))) aNil)) (aCons (eVar 2) aNil)))))) bSortT))
  (sRet (eNew (lComp (fun env S => ((eVar 1) env S).bind gIt) (aTup 3 (asCons (aName 3) (asCons (aName 4) (asCons (aName 2) asNil)))) [3, 4, 2] bT (eVar 2)))))
noncomputable def g_in_course : Fn := gOf n_in_course (b_in_course)
abbrev n_is_rules : List Str := ["thing", "ends", "end", "k"]
noncomputable def b_is_rules : DL.Env → Sto → RS :=
  (sSeq (sIf (bOr (bNot (eTru (fun env S => ((eVar 0) env S).bind (bIsi "tuple")))) (bOr (eTst (eBin dNe (eB1 (sRf (eVar 0)) bLen) (eC (.int 3)))) (bNot (eTru (fun env S => ((eBin dIx (eVar 0) (eC (.int 2))) env S).bind (bIsi "tuple")))))) (sRet (eC (.bl false))) sNx)
  (sSeq (sIf (bOr (bNot (eTru (eCall 3 g_is_within (aCons (eBin dIx (eVar 0) (eC (.int 0))) (aCons (eC (.int 1)) (aCons (eC (.int 1000000)) aNil)))))) (bNot (eTru (eCall 3 g_is_within (aCons (eBin dIx (eVar 0) (eC (.int 1))) (aCons (eC (.int 1)) (aCons (eC (.int 100)) aNil))))))) (sRet (eC (.bl false))) sNx)
  (sSeq (sSet 1 (eBin dIx (eVar 0) (eC (.int 2))))
  (sSeq (sIf (bOr (eTst (eBin dGt (eB1 (sRf (eVar 1)) bLen) (eC (.int 20)))) (bNot (eTru (eB1 (sTm (lComp (fun env S => ((eVar 1) env S).bind gIt) (aName 2) [2] bT (eCall 3 g_is_within (aCons (eVar 2) (aCons (eC (.int 1)) (aCons (eC (.int 1000000000)) aNil)))))) bAll)))) (sRet (eC (.bl false))) sNx)
  (sRet (eB1 (sTm (lComp (iRg2 (eC (.int 1)) (eB1 (sRf (eVar 1)) bLen)) (aName 3) [3] bT (eBin (dOrd .Lt) (eBin dIx (eVar 1) (eBin dSub (eVar 3) (eC (.int 1)))) (eBin dIx (eVar 1) (eVar 3))))) bAll))))))
noncomputable def g_is_rules : Fn := gOf n_is_rules (b_is_rules)
abbrev n_need_rules : List Str := ["rules"]
noncomputable def b_need_rules : DL.Env → Sto → RS :=
  (sIf (bNot (eTru (eCall 1 g_is_rules (aCons (eVar 0) aNil)))) (sRaise "NoRules") sNx)
noncomputable def g_need_rules : Fn := gOf n_need_rules (b_need_rules)
abbrev n_season_in : List Str := ["rules", "hour", "end"]
noncomputable def b_season_in : DL.Env → Sto → RS :=
  (sRet (eB1 (sTm (lComp (fun env S => ((eBin dIx (eVar 0) (eC (.int 2))) env S).bind gIt) (aName 2) [2] (eTst (eBin (dOrd .LtE) (eVar 2) (eVar 1))) (eVar 2))) bLen))
noncomputable def g_season_in : Fn := gOf n_season_in (b_season_in)
abbrev n_Thing_dinit : List Str := ["self", "name", "kind", "size"]
noncomputable def b_Thing_dinit (CThing : Addr) : DL.Env → Sto → RS :=
  (sSeq (sFldS CThing "name" (eVar 0) (eVar 1))
  (sSeq (sFldS CThing "kind" (eVar 0) (eVar 2))
  (sFldS CThing "size" (eVar 0) (eVar 3))))
noncomputable def g_Thing_dinit (CThing : Addr) : Fn := gOf n_Thing_dinit (b_Thing_dinit CThing)
abbrev n_Thing_dstr : List Str := ["self"]
noncomputable def b_Thing_dstr (CThing : Addr) : DL.Env → Sto → RS :=
  (sRet (eJs [(eFmt (eFld CThing "name" (eVar 0))), (eC (.str " ")), (eFmt (eFld CThing "kind" (eVar 0))), (eC (.str "/")), (eFmt (eFld CThing "size" (eVar 0)))]))
noncomputable def g_Thing_dstr (CThing : Addr) : Fn := gOf n_Thing_dstr (b_Thing_dstr CThing)
abbrev n_Thing_parts : List Str := ["self"]
noncomputable def b_Thing_parts (CThing : Addr) : DL.Env → Sto → RS :=
  (sRet (eTup (aCons (eFld CThing "kind" (eVar 0)) (aCons (eFld CThing "size" (eVar 0)) (aCons (eFld CThing "name" (eVar 0)) aNil)))))
noncomputable def g_Thing_parts (CThing : Addr) : Fn := gOf n_Thing_parts (b_Thing_parts CThing)
abbrev n_Thing_ahead : List Str := ["self", "other"]
noncomputable def b_Thing_ahead (CThing : Addr) : DL.Env → Sto → RS :=
  (sRet (eBin (dOrd .Lt) (eMeth CThing "parts" 1 (g_Thing_parts CThing) (eVar 0) aNil) (eMeth CThing "parts" 1 (g_Thing_parts CThing) (eVar 1) aNil)))
noncomputable def g_Thing_ahead (CThing : Addr) : Fn := gOf n_Thing_ahead (b_Thing_ahead CThing)
abbrev n_Course_dinit : List Str := ["self", "table", "rules"]
noncomputable def b_Course_dinit (CCourse : Addr) : DL.Env → Sto → RS :=
  (sSeq (sFldS CCourse "table" (eVar 0) (eVar 1))
  (sSeq (sFldS CCourse "rules" (eVar 0) (eVar 2))
  (sSeq (sFldS CCourse "purses" (eVar 0) eDNewK)
  (sSeq (sFldS CCourse "counts" (eVar 0) eDNewK)
  (sSeq (sFldS CCourse "given" (eVar 0) eDNewK)
  (sFldS CCourse "taken" (eVar 0) eDNewT))))))
noncomputable def g_Course_dinit (CCourse : Addr) : Fn := gOf n_Course_dinit (b_Course_dinit CCourse)
abbrev n_Course_purse_of : List Str := ["self", "house"]
noncomputable def b_Course_purse_of (CPurse CCourse : Addr) : DL.Env → Sto → RS :=
  (sSeq (sIf (eTst (eBin dNin (eVar 1) (eFld CCourse "purses" (eVar 0)))) (sSeq (sPut (eFld CCourse "purses" (eVar 0)) (eVar 1) (eMake CPurse 1 (g_Purse_dinit CPurse) aNil))
  (sPut (eFld CCourse "counts" (eVar 0)) (eVar 1) (eNew (lRep (sTm (lLst (aCons (eC (.int 0)) aNil))) (eC (.int 6)))))) sNx)
  (sRet (eBin dIx (eFld CCourse "purses" (eVar 0)) (eVar 1))))
noncomputable def g_Course_purse_of (CPurse CCourse : Addr) : Fn := gOf n_Course_purse_of (b_Course_purse_of CPurse CCourse)
abbrev n_Course_count : List Str := ["self", "house", "which", "points"]
noncomputable def b_Course_count (CPurse CCourse : Addr) : DL.Env → Sto → RS :=
  (sSeq (sExp (eMeth CCourse "purse_of" 2 (g_Course_purse_of CPurse CCourse) (eVar 0) (aCons (eVar 1) aNil)))
  (sAugI iAdd (eBin dIx (eFld CCourse "counts" (eVar 0)) (eVar 1)) (eVar 2) (eVar 3)))
noncomputable def g_Course_count (CPurse CCourse : Addr) : Fn := gOf n_Course_count (b_Course_count CPurse CCourse)
abbrev n_Course_come_to : List Str := ["self", "hour", "house"]
noncomputable def b_Course_come_to (CPurse CCourse : Addr) : DL.Env → Sto → RS :=
  (sFor (iTm (eB1 (sRf (eFld CCourse "purses" (eVar 0))) bList)) (aName 2) (sExp (eMeth CCourse "count" 4 (g_Course_count CPurse CCourse) (eVar 0) (aCons (eVar 2) (aCons (eC (.int 4)) (aCons (eMeth CPurse "end_at" 2 (g_Purse_end_at CPurse) (eBin dIx (eFld CCourse "purses" (eVar 0)) (eVar 2)) (aCons (eVar 1) aNil)) aNil))))))
noncomputable def g_Course_come_to (CPurse CCourse : Addr) : Fn := gOf n_Course_come_to (b_Course_come_to CPurse CCourse)
abbrev n_Course_come : List Str := ["self", "house", "points", "hour"]
noncomputable def b_Course_come (CPurse CCourse : Addr) : DL.Env → Sto → RS :=
  (sSeq (sExp (eMeth CPurse "gain" 3 (g_Purse_gain CPurse) (eMeth CCourse "purse_of" 2 (g_Course_purse_of CPurse CCourse) (eVar 0) (aCons (eVar 1) aNil)) (aCons (eVar 2) (aCons (eBin dAdd (eVar 3) (eBin dIx (eFld CCourse "rules" (eVar 0)) (eC (.int 0)))) aNil))))
  (sExp (eMeth CCourse "count" 4 (g_Course_count CPurse CCourse) (eVar 0) (aCons (eVar 1) (aCons (eC (.int 0)) (aCons (eVar 2) aNil))))))
noncomputable def g_Course_come (CPurse CCourse : Addr) : Fn := gOf n_Course_come (b_Course_come CPurse CCourse)
abbrev n_Course_is_there : List Str := ["self", "name"]
noncomputable def b_Course_is_there (CCourse : Addr) : DL.Env → Sto → RS :=
  (sRet (eAnd (eBin dIn (eVar 1) (eFld CCourse "given" (eVar 0))) (eAnd (eNot (eBin dIx (eBin dIx (eFld CCourse "given" (eVar 0)) (eVar 1)) (eC (.str "worn")))) (eBin dEq (eBin dIx (eBin dIx (eFld CCourse "given" (eVar 0)) (eVar 1)) (eC (.str "where"))) (eC (.str ""))))))
noncomputable def g_Course_is_there (CCourse : Addr) : Fn := gOf n_Course_is_there (b_Course_is_there CCourse)
abbrev n_Course_held_by : List Str := ["self", "name", "hour"]
noncomputable def b_Course_held_by (CCourse : Addr) : DL.Env → Sto → RS :=
  (sSeq (sIf (bOr (bNot (eTru (eMeth CCourse "is_there" 2 (g_Course_is_there CCourse) (eVar 0) (aCons (eVar 1) aNil)))) (eTst (eBin (dOrd .LtE) (eBin dIx (eBin dIx (eFld CCourse "given" (eVar 0)) (eVar 1)) (eC (.str "free"))) (eVar 2)))) (sRet (eC (.str ""))) sNx)
  (sRet (eBin dIx (eBin dIx (eFld CCourse "given" (eVar 0)) (eVar 1)) (eC (.str "holder")))))
noncomputable def g_Course_held_by (CCourse : Addr) : Fn := gOf n_Course_held_by (b_Course_held_by CCourse)
abbrev n_Course_give : List Str := ["self", "hour", "house", "name", "sort", "size", "points", "own"]
noncomputable def b_Course_give (CPurse CThing CCourse : Addr) : DL.Env → Sto → RS :=
  (sSeq (sSet 6 (eCall 3 g_points_in (aCons (eFld CCourse "table" (eVar 0)) (aCons (eVar 4) (aCons (eVar 1) aNil)))))
  (sSeq (sIf (eTst (eBin dIn (eVar 3) (eFld CCourse "given" (eVar 0)))) (sRet (eC (.str "again"))) sNx)
  (sSeq (sIf (eTst (eBin dIsN (eVar 6) (eC .non))) (sRet (eC (.str "unsorted"))) sNx)
  (sSeq (sSet 7 (eDisp [("thing", (eMake CThing 4 (g_Thing_dinit CThing) (aCons (eVar 3) (aCons (eVar 4) (aCons (eVar 5) aNil))))), ("house", (eVar 2)), ("points", (eVar 6)), ("hour", (eVar 1)), ("worn", (eC (.bl false)))]))
  (sSeq (sExp (eBm "dict" (eVar 7) (aCons (eDisp [("where", (eC (.str ""))), ("paid", (eC (.int 0))), ("holder", (eC (.str ""))), ("free", (eC (.int 0)))]) aNil) mUpdate))
  (sSeq (sPut (eFld CCourse "given" (eVar 0)) (eVar 3) (eVar 7))
  (sSeq (sExp (eMeth CCourse "come" 4 (g_Course_come CPurse CCourse) (eVar 0) (aCons (eVar 2) (aCons (eVar 6) (aCons (eVar 1) aNil)))))
  (sRet (eC (.str "done"))))))))))
noncomputable def g_Course_give (CPurse CThing CCourse : Addr) : Fn := gOf n_Course_give (b_Course_give CPurse CThing CCourse)
abbrev n_Course_aid : List Str := ["self", "hour", "house", "points"]
noncomputable def b_Course_aid (CPurse CCourse : Addr) : DL.Env → Sto → RS :=
  (sSeq (sExp (eMeth CCourse "come" 4 (g_Course_come CPurse CCourse) (eVar 0) (aCons (eVar 2) (aCons (eVar 3) (aCons (eVar 1) aNil)))))
  (sRet (eC (.str "done"))))
noncomputable def g_Course_aid (CPurse CCourse : Addr) : Fn := gOf n_Course_aid (b_Course_aid CPurse CCourse)
abbrev n_Course_worn : List Str := ["self", "hour", "name", "own"]
noncomputable def b_Course_worn (CPurse CCourse : Addr) : DL.Env → Sto → RS :=
  (sSeq (sIf (eTst (eBin dNin (eVar 2) (eFld CCourse "given" (eVar 0)))) (sRet (eC (.str "unknown"))) sNx)
  (sSeq (sSet 3 (eBin dIx (eFld CCourse "given" (eVar 0)) (eVar 2)))
  (sSeq (sIf (eTru (eBin dIx (eVar 3) (eC (.str "worn")))) (sRet (eC (.str "again"))) sNx)
  (sSeq (sPut (eVar 3) (eC (.str "worn")) (eC (.bl true)))
  (sSeq (sExp (eMeth CPurse "take_back" 2 (g_Purse_take_back CPurse) (eMeth CCourse "purse_of" 2 (g_Course_purse_of CPurse CCourse) (eVar 0) (aCons (eBin dIx (eVar 3) (eC (.str "house"))) aNil)) (aCons (eBin dIx (eVar 3) (eC (.str "points"))) aNil)))
  (sSeq (sExp (eMeth CCourse "count" 4 (g_Course_count CPurse CCourse) (eVar 0) (aCons (eBin dIx (eVar 3) (eC (.str "house"))) (aCons (eC (.int 5)) (aCons (eBin dIx (eVar 3) (eC (.str "points"))) aNil)))))
  (sSeq (sIf (eTst (eBin dNe (eBin dIx (eVar 3) (eC (.str "where"))) (eC (.str "")))) (sExp (eMeth CCourse "come" 4 (g_Course_come CPurse CCourse) (eVar 0) (aCons (eBin dIx (eVar 3) (eC (.str "where"))) (aCons (eBin dIx (eVar 3) (eC (.str "paid"))) (aCons (eVar 1) aNil))))) sNx)
  (sRet (eC (.str "done"))))))))))
noncomputable def g_Course_worn (CPurse CCourse : Addr) : Fn := gOf n_Course_worn (b_Course_worn CPurse CCourse)
abbrev n_Course_lend : List Str := ["self", "hour", "house", "other", "points", "lots", "end", "part"]
noncomputable def b_Course_lend (CPurse CCourse : Addr) : DL.Env → Sto → RS :=
  (sSeq (sIf (eTst (eBin dGt (eVar 4) (eMeth CPurse "has" 1 (g_Purse_has CPurse) (eMeth CCourse "purse_of" 2 (g_Course_purse_of CPurse CCourse) (eVar 0) (aCons (eVar 2) aNil)) aNil))) (sRet (eC (.str "lacks"))) sNx)
  (sSeq (sSet 5 (eMeth CPurse "pay" 2 (g_Purse_pay CPurse) (eMeth CCourse "purse_of" 2 (g_Course_purse_of CPurse CCourse) (eVar 0) (aCons (eVar 2) aNil)) (aCons (eVar 4) aNil)))
  (sSeq (sExp (eMeth CCourse "count" 4 (g_Course_count CPurse CCourse) (eVar 0) (aCons (eVar 2) (aCons (eC (.int 2)) (aCons (eVar 4) aNil)))))
  (sSeq (sExp (eMeth CCourse "count" 4 (g_Course_count CPurse CCourse) (eVar 0) (aCons (eVar 3) (aCons (eC (.int 1)) (aCons (eVar 4) aNil)))))
  (sSeq (sFor (fun env S => ((eVar 5) env S).bind gIt) (aTup 2 (asCons (aName 6) (asCons (aName 7) asNil))) (sExp (eMeth CPurse "gain" 3 (g_Purse_gain CPurse) (eMeth CCourse "purse_of" 2 (g_Course_purse_of CPurse CCourse) (eVar 0) (aCons (eVar 3) aNil)) (aCons (eVar 7) (aCons (eVar 6) aNil)))))
  (sRet (eC (.str "done"))))))))
noncomputable def g_Course_lend (CPurse CCourse : Addr) : Fn := gOf n_Course_lend (b_Course_lend CPurse CCourse)
abbrev n_Course_hold : List Str := ["self", "hour", "house", "name", "hours"]
noncomputable def b_Course_hold (CCourse : Addr) : DL.Env → Sto → RS :=
  (sSeq (sIf (bNot (eTru (eMeth CCourse "is_there" 2 (g_Course_is_there CCourse) (eVar 0) (aCons (eVar 3) aNil)))) (sRet (eC (.str "gone"))) sNx)
  (sSeq (sIf (eTst (eBin dNin (eMeth CCourse "held_by" 3 (g_Course_held_by CCourse) (eVar 0) (aCons (eVar 3) (aCons (eVar 1) aNil))) (eTup (aCons (eC (.str "")) (aCons (eVar 2) aNil))))) (sRet (eC (.str "held"))) sNx)
  (sSeq (sExp (eBm "dict" (eBin dIx (eFld CCourse "given" (eVar 0)) (eVar 3)) (aCons (eDisp [("holder", (eVar 2)), ("free", (eBin dAdd (eVar 1) (eVar 4)))]) aNil) mUpdate))
  (sRet (eC (.str "done"))))))
noncomputable def g_Course_hold (CCourse : Addr) : Fn := gOf n_Course_hold (b_Course_hold CCourse)
abbrev n_Course_most_left : List Str := ["self", "house", "hour"]
noncomputable def b_Course_most_left (CCourse : Addr) : DL.Env → Sto → RS :=
  (sRet (eBin dSub (eBin dIx (eFld CCourse "rules" (eVar 0)) (eC (.int 1))) (eGet2 (eFld CCourse "taken" (eVar 0)) (eTup (aCons (eVar 1) (aCons (eCall 2 g_season_in (aCons (eFld CCourse "rules" (eVar 0)) (aCons (eVar 2) aNil))) aNil))) (eC (.int 0)))))
noncomputable def g_Course_most_left (CCourse : Addr) : Fn := gOf n_Course_most_left (b_Course_most_left CCourse)
abbrev n_Course_bar : List Str := ["self", "hour", "house", "name"]
noncomputable def b_Course_bar (CPurse CThing CCourse : Addr) : DL.Env → Sto → RS :=
  (sSeq (sIf (bNot (eTru (eMeth CCourse "is_there" 2 (g_Course_is_there CCourse) (eVar 0) (aCons (eVar 3) aNil)))) (sRet (eC (.str "gone"))) sNx)
  (sSeq (sIf (eTst (eBin dNin (eMeth CCourse "held_by" 3 (g_Course_held_by CCourse) (eVar 0) (aCons (eVar 3) (aCons (eVar 1) aNil))) (eTup (aCons (eC (.str "")) (aCons (eVar 2) aNil))))) (sRet (eC (.str "held"))) sNx)
  (sSeq (sIf (eTst (eBin dEq (eMeth CCourse "most_left" 3 (g_Course_most_left CCourse) (eVar 0) (aCons (eVar 2) (aCons (eVar 1) aNil))) (eC (.int 0)))) (sRet (eC (.str "most"))) sNx)
  (sSeq (sIf (eTst (eBin dGt (eCall 3 g_points_in (aCons (eFld CCourse "table" (eVar 0)) (aCons (eFld CThing "kind" (eBin dIx (eBin dIx (eFld CCourse "given" (eVar 0)) (eVar 3)) (eC (.str "thing")))) (aCons (eVar 1) aNil)))) (eMeth CPurse "has" 1 (g_Purse_has CPurse) (eMeth CCourse "purse_of" 2 (g_Course_purse_of CPurse CCourse) (eVar 0) (aCons (eVar 2) aNil)) aNil))) (sRet (eC (.str "lacks"))) sNx)
  (sRet (eC (.str "")))))))
noncomputable def g_Course_bar (CPurse CThing CCourse : Addr) : Fn := gOf n_Course_bar (b_Course_bar CPurse CThing CCourse)
abbrev n_Course_take : List Str := ["self", "hour", "house", "name", "word", "own", "points", "season"]
noncomputable def b_Course_take (CPurse CThing CCourse : Addr) : DL.Env → Sto → RS :=
  (sSeq (sSet 4 (eMeth CCourse "bar" 4 (g_Course_bar CPurse CThing CCourse) (eVar 0) (aCons (eVar 1) (aCons (eVar 2) (aCons (eVar 3) aNil)))))
  (sSeq (sIf (eTst (eBin dNe (eVar 4) (eC (.str "")))) (sRet (eVar 4)) sNx)
  (sSeq (sSet 5 (eBin dIx (eFld CCourse "given" (eVar 0)) (eVar 3)))
  (sSeq (sSet 6 (eCall 3 g_points_in (aCons (eFld CCourse "table" (eVar 0)) (aCons (eFld CThing "kind" (eBin dIx (eVar 5) (eC (.str "thing")))) (aCons (eVar 1) aNil)))))
  (sSeq (sExp (eMeth CPurse "pay" 2 (g_Purse_pay CPurse) (eMeth CCourse "purse_of" 2 (g_Course_purse_of CPurse CCourse) (eVar 0) (aCons (eVar 2) aNil)) (aCons (eVar 6) aNil)))
  (sSeq (sExp (eMeth CCourse "count" 4 (g_Course_count CPurse CCourse) (eVar 0) (aCons (eVar 2) (aCons (eC (.int 3)) (aCons (eVar 6) aNil)))))
  (sSeq (sExp (eBm "dict" (eVar 5) (aCons (eDisp [("where", (eVar 2)), ("paid", (eVar 6))]) aNil) mUpdate))
  (sSeq (sSet 7 (eTup (aCons (eVar 2) (aCons (eCall 2 g_season_in (aCons (eFld CCourse "rules" (eVar 0)) (aCons (eVar 1) aNil))) aNil))))
  (sSeq (sPut (eFld CCourse "taken" (eVar 0)) (eVar 7) (eBin dAdd (eGet2 (eFld CCourse "taken" (eVar 0)) (eVar 7) (eC (.int 0))) (eC (.int 1))))
  (sRet (eC (.str "done"))))))))))))
noncomputable def g_Course_take (CPurse CThing CCourse : Addr) : Fn := gOf n_Course_take (b_Course_take CPurse CThing CCourse)
abbrev n_Course_do : List Str := ["self", "row"]
noncomputable def b_Course_do (CPurse CThing CCourse : Addr) : DL.Env → Sto → RS :=
  (sSeq (sExp (eMeth CCourse "come_to" 2 (g_Course_come_to CPurse CCourse) (eVar 0) (aCons (eBin dIx (eVar 1) (eC (.int 1))) aNil)))
  (sSeq (sIf (eTst (eBin dEq (eBin dIx (eVar 1) (eC (.int 0))) (eC (.str "give")))) (sRet (eMeth CCourse "give" 6 (g_Course_give CPurse CThing CCourse) (eVar 0) (aCons (eBin dIx (eVar 1) (eC (.int 1))) (aCons (eBin dIx (eVar 1) (eC (.int 2))) (aCons (eBin dIx (eVar 1) (eC (.int 3))) (aCons (eBin dIx (eVar 1) (eC (.int 4))) (aCons (eBin dIx (eVar 1) (eC (.int 5))) aNil))))))) sNx)
  (sSeq (sIf (eTst (eBin dEq (eBin dIx (eVar 1) (eC (.int 0))) (eC (.str "help")))) (sRet (eMeth CCourse "aid" 4 (g_Course_aid CPurse CCourse) (eVar 0) (aCons (eBin dIx (eVar 1) (eC (.int 1))) (aCons (eBin dIx (eVar 1) (eC (.int 2))) (aCons (eBin dIx (eVar 1) (eC (.int 3))) aNil))))) sNx)
  (sSeq (sIf (eTst (eBin dEq (eBin dIx (eVar 1) (eC (.int 0))) (eC (.str "worn")))) (sRet (eMeth CCourse "worn" 3 (g_Course_worn CPurse CCourse) (eVar 0) (aCons (eBin dIx (eVar 1) (eC (.int 1))) (aCons (eBin dIx (eVar 1) (eC (.int 2))) aNil)))) sNx)
  (sSeq (sIf (eTst (eBin dEq (eBin dIx (eVar 1) (eC (.int 0))) (eC (.str "lend")))) (sRet (eMeth CCourse "lend" 5 (g_Course_lend CPurse CCourse) (eVar 0) (aCons (eBin dIx (eVar 1) (eC (.int 1))) (aCons (eBin dIx (eVar 1) (eC (.int 2))) (aCons (eBin dIx (eVar 1) (eC (.int 3))) (aCons (eBin dIx (eVar 1) (eC (.int 4))) aNil)))))) sNx)
  (sSeq (sIf (eTst (eBin dEq (eBin dIx (eVar 1) (eC (.int 0))) (eC (.str "hold")))) (sRet (eMeth CCourse "hold" 5 (g_Course_hold CCourse) (eVar 0) (aCons (eBin dIx (eVar 1) (eC (.int 1))) (aCons (eBin dIx (eVar 1) (eC (.int 2))) (aCons (eBin dIx (eVar 1) (eC (.int 3))) (aCons (eBin dIx (eVar 1) (eC (.int 4))) aNil)))))) sNx)
  (sRet (eMeth CCourse "take" 4 (g_Course_take CPurse CThing CCourse) (eVar 0) (aCons (eBin dIx (eVar 1) (eC (.int 1))) (aCons (eBin dIx (eVar 1) (eC (.int 2))) (aCons (eBin dIx (eVar 1) (eC (.int 3))) aNil)))))))))))
noncomputable def g_Course_do (CPurse CThing CCourse : Addr) : Fn := gOf n_Course_do (b_Course_do CPurse CThing CCourse)
abbrev n_need_all : List Str := ["table", "rules", "rows"]
noncomputable def b_need_all : DL.Env → Sto → RS :=
  (sSeq (sExp (eCall 1 g_need_table (aCons (eVar 0) aNil)))
  (sSeq (sExp (eCall 1 g_need_rules (aCons (eVar 1) aNil)))
  (sExp (eCall 1 g_need_rows (aCons (eVar 2) aNil)))))
noncomputable def g_need_all : Fn := gOf n_need_all (b_need_all)
abbrev n_notes : List Str := ["table", "rules", "rows", "course", "row"]
noncomputable def b_notes (CPurse CThing CCourse : Addr) : DL.Env → Sto → RS :=
  (sSeq (sExp (eCall 3 g_need_all (aCons (eVar 0) (aCons (eVar 1) (aCons (eVar 2) aNil)))))
  (sSeq (sSet 3 (eMake CCourse 3 (g_Course_dinit CCourse) (aCons (eVar 0) (aCons (eVar 1) aNil))))
  (sRet (eNew (lComp (fun env S => ((eCall 1 g_in_course (aCons (eVar 2) aNil)) env S).bind gIt) (aName 4) [4] bT (eTup (aCons (eVar 4) (aCons (eMeth CCourse "do" 2 (g_Course_do CPurse CThing CCourse) (eVar 3) (aCons (eVar 4) aNil)) aNil))))))))
noncomputable def g_notes (CPurse CThing CCourse : Addr) : Fn := gOf n_notes (b_notes CPurse CThing CCourse)
abbrev n_law_any_order : List Str := ["draws", "many", "order", "k"]
noncomputable def b_law_any_order : DL.Env → Sto → RS :=
  (sSeq (sNew 2 (lLst aNil))
  (sSeq (sFor (iRg1 (eVar 1)) (aName 3) (sExp (eBm "list" (eVar 2) (aCons (eCall 2 g_law_draw (aCons (eVar 0) (aCons (eBin dAdd (eVar 3) (eC (.int 1))) aNil))) (aCons (eVar 3) aNil)) mInsert)))
  (sRet (eVar 2))))
noncomputable def g_law_any_order : Fn := gOf n_law_any_order (b_law_any_order)
abbrev n_law_rows : List Str := ["draws", "sorts", "houses", "things", "many", "found", "k", "house", "other", "thing", "hour", "way", "sort"]
noncomputable def b_law_rows : DL.Env → Sto → RS :=
  (sSeq (sNew 5 (lLst aNil))
  (sSeq (sFor (iRg1 (eVar 4)) (aName 6) (sSeq (sSet 7 (eBin dIx (eVar 2) (eCall 2 g_law_draw (aCons (eVar 0) (aCons (eB1 (sRf (eVar 2)) bLen) aNil)))))
  (sSeq (sSet 8 (eBin dIx (eVar 2) (eCall 2 g_law_draw (aCons (eVar 0) (aCons (eB1 (sRf (eVar 2)) bLen) aNil)))))
  (sSeq (sSet 9 (eBin dIx (eVar 3) (eCall 2 g_law_draw (aCons (eVar 0) (aCons (eB1 (sRf (eVar 3)) bLen) aNil)))))
  (sSeq (sSet 10 (eBin dAdd (eC (.int 5)) (eCall 2 g_law_draw (aCons (eVar 0) (aCons (eC (.int 55)) aNil)))))
  (sSeq (sSet 11 (eCall 2 g_law_draw (aCons (eVar 0) (aCons (eC (.int 16)) aNil))))
  (sIf (eTst (eBin (dOrd .Lt) (eVar 11) (eC (.int 5)))) (sSeq (sSet 12 (eBin dIx (eVar 1) (eCall 2 g_law_draw (aCons (eVar 0) (aCons (eB1 (sRf (eVar 1)) bLen) aNil)))))
  (sExp (eBm "list" (eVar 5) (aCons (eTup (aCons (eC (.str "give")) (aCons (eCall 2 g_law_draw (aCons (eVar 0) (aCons (lIx (lLst (aCons (eC (.int 12)) (aCons (eC (.int 40)) aNil))) (eBin dDiv (eVar 11) (eC (.int 4)))) aNil))) (aCons (eVar 7) (aCons (eVar 9) (aCons (eVar 12) (aCons (eBin dAdd (eC (.int 1)) (eCall 2 g_law_draw (aCons (eVar 0) (aCons (eC (.int 9)) aNil)))) aNil))))))) aNil) mAppend))) (sIf (eTst (eBin dEq (eVar 11) (eC (.int 5)))) (sExp (eBm "list" (eVar 5) (aCons (eTup (aCons (eC (.str "help")) (aCons (eBin dDiv (eVar 10) (eC (.int 2))) (aCons (eVar 7) (aCons (eBin dAdd (eC (.int 1)) (eCall 2 g_law_draw (aCons (eVar 0) (aCons (eC (.int 40)) aNil)))) aNil))))) aNil) mAppend)) (sIf (eTst (eBin dEq (eVar 11) (eC (.int 6)))) (sExp (eBm "list" (eVar 5) (aCons (eTup (aCons (eC (.str "worn")) (aCons (eVar 10) (aCons (eVar 9) aNil)))) aNil) mAppend)) (sIf (bAnd (eTst (eBin dEq (eVar 11) (eC (.int 7)))) (eTst (eBin dNe (eVar 7) (eVar 8)))) (sExp (eBm "list" (eVar 5) (aCons (eTup (aCons (eC (.str "lend")) (aCons (eVar 10) (aCons (eVar 7) (aCons (eVar 8) (aCons (eBin dAdd (eC (.int 1)) (eCall 2 g_law_draw (aCons (eVar 0) (aCons (eC (.int 20)) aNil)))) aNil)))))) aNil) mAppend)) (sIf (eTst (eBin (dOrd .Lt) (eVar 11) (eC (.int 10)))) (sExp (eBm "list" (eVar 5) (aCons (eTup (aCons (eC (.str "hold")) (aCons (eVar 10) (aCons (eVar 7) (aCons (eVar 9) (aCons (eBin dAdd (eC (.int 1)) (eCall 2 g_law_draw (aCons (eVar 0) (aCons (lIx (lLst (aCons (eC (.int 3)) (aCons (eC (.int 30)) aNil))) (eBin dSub (eVar 11) (eC (.int 8)))) aNil)))) aNil)))))) aNil) mAppend)) (sExp (eBm "list" (eVar 5) (aCons (eTup (aCons (eC (.str "take")) (aCons (eVar 10) (aCons (eVar 7) (aCons (eVar 9) aNil))))) aNil) mAppend)))))))))))))
  (sSeq (sNew 5 (eB1 (sRf (eVar 5)) bSortSet))
  (sRet (eNew (lComp (fun env S => ((eCall 2 g_law_any_order (aCons (eVar 0) (aCons (eB1 (sRf (eVar 5)) bLen) aNil))) env S).bind gIt) (aName 6) [6] bT (eBin dIx (eVar 5) (eVar 6))))))))
noncomputable def g_law_rows : Fn := gOf n_law_rows (b_law_rows)
abbrev n_law_rules : List Str := ["draws", "life", "ends", "k"]
noncomputable def b_law_rules : DL.Env → Sto → RS :=
  (sSeq (sSet 1 (lIx (lLst (aCons (eBin dAdd (eC (.int 1)) (eCall 2 g_law_draw (aCons (eVar 0) (aCons (eC (.int 9)) aNil)))) (aCons (eBin dAdd (eC (.int 1)) (eCall 2 g_law_draw (aCons (eVar 0) (aCons (eC (.int 60)) aNil)))) (aCons (eBin dPow (eC (.int 10)) (eC (.int 6))) aNil)))) (eCall 2 g_law_draw (aCons (eVar 0) (aCons (eC (.int 3)) aNil)))))
  (sSeq (sSet 2 eDNewK)
  (sSeq (sFor (iRg1 (eCall 2 g_law_draw (aCons (eVar 0) (aCons (eC (.int 4)) aNil)))) (aName 3) (sPut (eVar 2) (eBin dAdd (eC (.int 10)) (eCall 2 g_law_draw (aCons (eVar 0) (aCons (eC (.int 60)) aNil)))) (eC (.bl true))))
  (sRet (eTup (aCons (eVar 1) (aCons (lIx (lLst (aCons (eC (.int 1)) (aCons (eC (.int 2)) (aCons (eBin dAdd (eC (.int 1)) (eCall 2 g_law_draw (aCons (eVar 0) (aCons (eC (.int 5)) aNil)))) (aCons (eC (.int 100)) aNil))))) (eCall 2 g_law_draw (aCons (eVar 0) (aCons (eC (.int 4)) aNil)))) (aCons (eB1 (sTm (eB1 (sTm (eB1 (sRf (eVar 2)) bList)) bSort)) bTuple) aNil))))))))
noncomputable def g_law_rules : Fn := gOf n_law_rules (b_law_rules)
abbrev n_law_case : List Str := ["draws", "sorts", "houses", "things", "rows"]
noncomputable def b_law_case : DL.Env → Sto → RS :=
  (sSeq (sSet 1 (eCall 2 g_law_names (aCons (eVar 0) (aCons (eC (.int 3)) aNil))))
  (sSeq (sSet 2 (eCall 2 g_law_names (aCons (eVar 0) (aCons (eBin dAdd (eC (.int 2)) (eCall 2 g_law_draw (aCons (eVar 0) (aCons (eC (.int 3)) aNil)))) aNil))))
  (sSeq (sSet 3 (eCall 2 g_law_names (aCons (eVar 0) (aCons (eBin dAdd (eC (.int 3)) (eCall 2 g_law_draw (aCons (eVar 0) (aCons (eC (.int 6)) aNil)))) aNil))))
  (sSeq (sSet 4 (eCall 5 g_law_rows (aCons (eVar 0) (aCons (eVar 1) (aCons (eVar 2) (aCons (eVar 3) (aCons (lIx (lLst (aCons (eC (.int 8)) (aCons (eC (.int 25)) (aCons (eC (.int 45)) aNil)))) (eCall 2 g_law_draw (aCons (eVar 0) (aCons (eC (.int 3)) aNil)))) aNil)))))))
  (sRet (eTup (aCons (eCall 2 g_law_table (aCons (eVar 0) (aCons (eVar 1) aNil))) (aCons (eCall 1 g_law_rules (aCons (eVar 0) aNil)) (aCons (eVar 4) (aCons (eVar 2) (aCons (eVar 3) aNil)))))))))))
noncomputable def g_law_case : Fn := gOf n_law_case (b_law_case)
abbrev n_law_new : List Str := []
noncomputable def b_law_new : DL.Env → Sto → RS :=
  (sRet (eDisp [("lots", eDNewK), ("debt", eDNewK), ("sums", eDNewK), ("given", eDNewK), ("taken", eDNewT)]))
noncomputable def g_law_new : Fn := gOf n_law_new (b_law_new)
abbrev n_law_sum : List Str := ["own", "house", "which", "points"]
noncomputable def b_law_sum : DL.Env → Sto → RS :=
  (sSeq (sIf (eTst (eBin dNin (eVar 1) (eBin dIx (eVar 0) (eC (.str "lots"))))) (sSeq (sPut (eBin dIx (eVar 0) (eC (.str "lots"))) (eVar 1) (eNew (lLst aNil)))
  (sSeq (sPut (eBin dIx (eVar 0) (eC (.str "debt"))) (eVar 1) (eC (.int 0)))
  (sPut (eBin dIx (eVar 0) (eC (.str "sums"))) (eVar 1) (eNew (lRep (sTm (lLst (aCons (eC (.int 0)) aNil))) (eC (.int 6))))))) sNx)
  (sPut (eBin dIx (eBin dIx (eVar 0) (eC (.str "sums"))) (eVar 1)) (eVar 2) (eBin dAdd (eBin dIx (eBin dIx (eBin dIx (eVar 0) (eC (.str "sums"))) (eVar 1)) (eVar 2)) (eVar 3))))
noncomputable def g_law_sum : Fn := gOf n_law_sum (b_law_sum)
abbrev n_law_end : List Str := ["own", "hour", "house", "lot"]
noncomputable def b_law_end : DL.Env → Sto → RS :=
  (sFor (iTm (eB1 (sRf (eBin dIx (eVar 0) (eC (.str "lots")))) bList)) (aName 2) (sSeq (sExp (eCall 4 g_law_sum (aCons (eVar 0) (aCons (eVar 2) (aCons (eC (.int 4)) (aCons (eB1 (sTm (lComp (fun env S => ((eBin dIx (eBin dIx (eVar 0) (eC (.str "lots"))) (eVar 2)) env S).bind gIt) (aName 3) [3] (eTst (eBin (dOrd .LtE) (eBin dIx (eVar 3) (eC (.int 0))) (eVar 1))) (eBin dIx (eVar 3) (eC (.int 1))))) bSum) aNil))))))
  (sPut (eBin dIx (eVar 0) (eC (.str "lots"))) (eVar 2) (eNew (lComp (fun env S => ((eBin dIx (eBin dIx (eVar 0) (eC (.str "lots"))) (eVar 2)) env S).bind gIt) (aName 3) [3] (eTst (eBin dGt (eBin dIx (eVar 3) (eC (.int 0))) (eVar 1))) (eVar 3))))))
noncomputable def g_law_end : Fn := gOf n_law_end (b_law_end)
abbrev n_law_gain : List Str := ["own", "house", "points", "end", "met", "lots"]
noncomputable def b_law_gain : DL.Env → Sto → RS :=
  (sSeq (sSet 4 (eB (aCons (eVar 2) (aCons (eBin dIx (eBin dIx (eVar 0) (eC (.str "debt"))) (eVar 1)) aNil)) (g2 bMin2)))
  (sSeq (sPut (eBin dIx (eVar 0) (eC (.str "debt"))) (eVar 1) (eBin dSub (eBin dIx (eBin dIx (eVar 0) (eC (.str "debt"))) (eVar 1)) (eVar 4)))
  (sSeq (sSet 5 (eB1 (sRf (eBin dIx (eBin dIx (eVar 0) (eC (.str "lots"))) (eVar 1))) bDict))
  (sSeq (sIf (eTst (eBin dGt (eVar 2) (eVar 4))) (sPut (eVar 5) (eVar 3) (eBin dSub (eBin dAdd (eGet2 (eVar 5) (eVar 3) (eC (.int 0))) (eVar 2)) (eVar 4))) sNx)
  (sPut (eBin dIx (eVar 0) (eC (.str "lots"))) (eVar 1) (eNew (lSIt (eVar 5))))))))
noncomputable def g_law_gain : Fn := gOf n_law_gain (b_law_gain)
abbrev n_law_has : List Str := ["own", "house", "lot"]
noncomputable def b_law_has : DL.Env → Sto → RS :=
  (sRet (eB1 (sTm (lComp (fun env S => ((eGet2 (eBin dIx (eVar 0) (eC (.str "lots"))) (eVar 1) (eNew (lLst aNil))) env S).bind gIt) (aName 2) [2] bT (eBin dIx (eVar 2) (eC (.int 1))))) bSum))
noncomputable def g_law_has : Fn := gOf n_law_has (b_law_has)
abbrev n_law_put_out : List Str := ["own", "house", "points", "found", "left", "end", "here", "part", "lot"]
noncomputable def b_law_put_out : DL.Env → Sto → RS :=
  (sSeq (sNew 3 (lLst aNil))
  (sSeq (sNew 4 (lLst aNil))
  (sSeq (sFor (fun env S => ((eBin dIx (eBin dIx (eVar 0) (eC (.str "lots"))) (eVar 1)) env S).bind gIt) (aTup 2 (asCons (aName 5) (asCons (aName 6) asNil))) (sSeq (sSet 7 (eB (aCons (eVar 6) (aCons (eBin dSub (eVar 2) (eB1 (sTm (lComp (fun env S => ((eVar 3) env S).bind gIt) (aName 8) [8] bT (eBin dIx (eVar 8) (eC (.int 1))))) bSum)) aNil)) (g2 bMin2)))
  (sSeq (sIf (eTst (eBin dGt (eVar 7) (eC (.int 0)))) (sExp (eBm "list" (eVar 3) (aCons (eTup (aCons (eVar 5) (aCons (eVar 7) aNil))) aNil) mAppend)) sNx)
  (sIf (eTst (eBin (dOrd .Lt) (eVar 7) (eVar 6))) (sExp (eBm "list" (eVar 4) (aCons (eTup (aCons (eVar 5) (aCons (eBin dSub (eVar 6) (eVar 7)) aNil))) aNil) mAppend)) sNx))))
  (sSeq (sPut (eBin dIx (eVar 0) (eC (.str "lots"))) (eVar 1) (eVar 4))
  (sRet (eVar 3))))))
noncomputable def g_law_put_out : Fn := gOf n_law_put_out (b_law_put_out)
abbrev n_law_given : List Str := ["own", "table", "rules", "row", "word", "hour", "house", "name", "sort", "size", "points", "thing", "here"]
noncomputable def b_law_given : DL.Env → Sto → RS :=
  (sSeq (sIf (eTst (eBin dEq (eBin dIx (eVar 3) (eC (.int 0))) (eC (.str "give")))) (sSeq (sAsg (aTup 6 (asCons (aName 4) (asCons (aName 5) (asCons (aName 6) (asCons (aName 7) (asCons (aName 8) (asCons (aName 9) asNil))))))) (eVar 3))
  (sSeq (sSet 10 (eCall 3 g_law_points (aCons (eVar 1) (aCons (eVar 8) (aCons (eVar 5) aNil)))))
  (sSeq (sIf (bOr (eTst (eBin dIn (eVar 7) (eBin dIx (eVar 0) (eC (.str "given"))))) (eTst (eBin dIsN (eVar 10) (eC .non)))) (sRet (eIf (eTst (eBin dIn (eVar 7) (eBin dIx (eVar 0) (eC (.str "given"))))) (eC (.str "again")) (eC (.str "unsorted")))) sNx)
  (sSeq (sPut (eBin dIx (eVar 0) (eC (.str "given"))) (eVar 7) (eDisp [("house", (eVar 6)), ("sort", (eVar 8)), ("size", (eVar 9)), ("points", (eVar 10)), ("hour", (eVar 5))]))
  (sSeq (sExp (eBm "dict" (eBin dIx (eBin dIx (eVar 0) (eC (.str "given"))) (eVar 7)) (aCons (eDisp [("worn", (eC (.bl false))), ("where", (eC (.str ""))), ("paid", (eC (.int 0))), ("by", (eC (.str ""))), ("free", (eC (.int 0)))]) aNil) mUpdate))
  (sSeq (sExp (eCall 4 g_law_sum (aCons (eVar 0) (aCons (eVar 6) (aCons (eC (.int 0)) (aCons (eVar 10) aNil))))))
  (sSeq (sExp (eCall 4 g_law_gain (aCons (eVar 0) (aCons (eVar 6) (aCons (eVar 10) (aCons (eBin dAdd (eVar 5) (eBin dIx (eVar 2) (eC (.int 0)))) aNil))))))
  (sRet (eC (.str "done")))))))))) sNx)
  (sSeq (sSet 11 (eGet2 (eBin dIx (eVar 0) (eC (.str "given"))) (eBin dIx (eVar 3) (eC (.int 2))) (eC .non)))
  (sSeq (sIf (bOr (eTst (eBin dIsN (eVar 11) (eC .non))) (eTru (eBin dIx (eVar 11) (eC (.str "worn"))))) (sRet (eIf (eTst (eBin dIsN (eVar 11) (eC .non))) (eC (.str "unknown")) (eC (.str "again")))) sNx)
  (sSeq (sPut (eVar 11) (eC (.str "worn")) (eC (.bl true)))
  (sSeq (sSet 12 (eCall 2 g_law_has (aCons (eVar 0) (aCons (eBin dIx (eVar 11) (eC (.str "house"))) aNil))))
  (sSeq (sExp (eCall 3 g_law_put_out (aCons (eVar 0) (aCons (eBin dIx (eVar 11) (eC (.str "house"))) (aCons (eBin dIx (eVar 11) (eC (.str "points"))) aNil)))))
  (sSeq (sPut (eBin dIx (eVar 0) (eC (.str "debt"))) (eBin dIx (eVar 11) (eC (.str "house"))) (eBin dAdd (eBin dIx (eBin dIx (eVar 0) (eC (.str "debt"))) (eBin dIx (eVar 11) (eC (.str "house")))) (eB (aCons (eC (.int 0)) (aCons (eBin dSub (eBin dIx (eVar 11) (eC (.str "points"))) (eVar 12)) aNil)) (g2 bMax2))))
  (sSeq (sExp (eCall 4 g_law_sum (aCons (eVar 0) (aCons (eBin dIx (eVar 11) (eC (.str "house"))) (aCons (eC (.int 5)) (aCons (eBin dIx (eVar 11) (eC (.str "points"))) aNil))))))
  (sSeq (sIf (eTst (eBin dNe (eBin dIx (eVar 11) (eC (.str "where"))) (eC (.str "")))) (sSeq (sExp (eCall 4 g_law_sum (aCons (eVar 0) (aCons (eBin dIx (eVar 11) (eC (.str "where"))) (aCons (eC (.int 0)) (aCons (eBin dIx (eVar 11) (eC (.str "paid"))) aNil))))))
  (sExp (eCall 4 g_law_gain (aCons (eVar 0) (aCons (eBin dIx (eVar 11) (eC (.str "where"))) (aCons (eBin dIx (eVar 11) (eC (.str "paid"))) (aCons (eBin dAdd (eBin dIx (eVar 3) (eC (.int 1))) (eBin dIx (eVar 2) (eC (.int 0)))) aNil))))))) sNx)
  (sRet (eC (.str "done"))))))))))))
noncomputable def g_law_given : Fn := gOf n_law_given (b_law_given)
abbrev n_law_lent : List Str := ["own", "row", "word", "hour", "house", "other", "points", "end", "part"]
noncomputable def b_law_lent : DL.Env → Sto → RS :=
  (sSeq (sAsg (aTup 5 (asCons (aName 2) (asCons (aName 3) (asCons (aName 4) (asCons (aName 5) (asCons (aName 6) asNil)))))) (eVar 1))
  (sSeq (sIf (eTst (eBin dGt (eVar 6) (eCall 2 g_law_has (aCons (eVar 0) (aCons (eVar 4) aNil))))) (sRet (eC (.str "lacks"))) sNx)
  (sSeq (sExp (eCall 4 g_law_sum (aCons (eVar 0) (aCons (eVar 4) (aCons (eC (.int 2)) (aCons (eVar 6) aNil))))))
  (sSeq (sExp (eCall 4 g_law_sum (aCons (eVar 0) (aCons (eVar 5) (aCons (eC (.int 1)) (aCons (eVar 6) aNil))))))
  (sSeq (sFor (fun env S => ((eCall 3 g_law_put_out (aCons (eVar 0) (aCons (eVar 4) (aCons (eVar 6) aNil)))) env S).bind gIt) (aTup 2 (asCons (aName 7) (asCons (aName 8) asNil))) (sExp (eCall 4 g_law_gain (aCons (eVar 0) (aCons (eVar 5) (aCons (eVar 8) (aCons (eVar 7) aNil)))))))
  (sRet (eC (.str "done"))))))))
noncomputable def g_law_lent : Fn := gOf n_law_lent (b_law_lent)
abbrev n_law_season : List Str := ["rules", "hour", "end"]
noncomputable def b_law_season : DL.Env → Sto → RS :=
  (sRet (eB1 (sTm (lComp (fun env S => ((eBin dIx (eVar 0) (eC (.int 2))) env S).bind gIt) (aName 2) [2] bT (eB (aCons (eBin (dOrd .LtE) (eVar 2) (eVar 1)) aNil) (g1 bInt)))) bSum))
noncomputable def g_law_season : Fn := gOf n_law_season (b_law_season)
abbrev n_law_bar : List Str := ["own", "table", "rules", "row", "hour", "house", "name", "thing", "price"]
noncomputable def b_law_bar : DL.Env → Sto → RS :=
  (sSeq (sAsg (aTup 3 (asCons (aName 4) (asCons (aName 5) (asCons (aName 6) asNil)))) (eSl (eVar 3) (eSo (eC (.int 1))) (eSo (eC (.int 4)))))
  (sSeq (sSet 7 (eGet2 (eBin dIx (eVar 0) (eC (.str "given"))) (eVar 6) (eC .non)))
  (sSeq (sIf (bOr (eTst (eBin dIsN (eVar 7) (eC .non))) (bOr (eTru (eBin dIx (eVar 7) (eC (.str "worn")))) (eTst (eBin dNe (eBin dIx (eVar 7) (eC (.str "where"))) (eC (.str "")))))) (sRet (eC (.str "gone"))) sNx)
  (sSeq (sIf (bAnd (eTst (eBin dGt (eBin dIx (eVar 7) (eC (.str "free"))) (eVar 4))) (eTst (eBin dNe (eBin dIx (eVar 7) (eC (.str "by"))) (eVar 5)))) (sRet (eC (.str "held"))) sNx)
  (sSeq (sIf (eTst (eBin dEq (eBin dIx (eVar 3) (eC (.int 0))) (eC (.str "hold")))) (sRet (eC (.str ""))) sNx)
  (sSeq (sIf (eTst (eBin (dOrd .GtE) (eGet2 (eBin dIx (eVar 0) (eC (.str "taken"))) (eTup (aCons (eVar 5) (aCons (eCall 2 g_law_season (aCons (eVar 2) (aCons (eVar 4) aNil))) aNil))) (eC (.int 0))) (eBin dIx (eVar 2) (eC (.int 1))))) (sRet (eC (.str "most"))) sNx)
  (sSeq (sSet 8 (eCall 3 g_law_points (aCons (eVar 1) (aCons (eBin dIx (eVar 7) (eC (.str "sort"))) (aCons (eVar 4) aNil)))))
  (sRet (eIf (eTst (eBin dGt (eVar 8) (eCall 2 g_law_has (aCons (eVar 0) (aCons (eVar 5) aNil))))) (eC (.str "lacks")) (eC (.str "")))))))))))
noncomputable def g_law_bar : Fn := gOf n_law_bar (b_law_bar)
abbrev n_law_do : List Str := ["own", "table", "rules", "row", "bar", "thing", "points", "key"]
noncomputable def b_law_do : DL.Env → Sto → RS :=
  (sSeq (sExp (eCall 2 g_law_end (aCons (eVar 0) (aCons (eBin dIx (eVar 3) (eC (.int 1))) aNil))))
  (sSeq (sIf (eTst (eBin dIn (eBin dIx (eVar 3) (eC (.int 0))) (eTup (aCons (eC (.str "give")) (aCons (eC (.str "worn")) aNil))))) (sRet (eCall 4 g_law_given (aCons (eVar 0) (aCons (eVar 1) (aCons (eVar 2) (aCons (eVar 3) aNil)))))) sNx)
  (sSeq (sIf (eTst (eBin dEq (eBin dIx (eVar 3) (eC (.int 0))) (eC (.str "help")))) (sSeq (sExp (eCall 4 g_law_sum (aCons (eVar 0) (aCons (eBin dIx (eVar 3) (eC (.int 2))) (aCons (eC (.int 0)) (aCons (eBin dIx (eVar 3) (eC (.int 3))) aNil))))))
  (sSeq (sExp (eCall 4 g_law_gain (aCons (eVar 0) (aCons (eBin dIx (eVar 3) (eC (.int 2))) (aCons (eBin dIx (eVar 3) (eC (.int 3))) (aCons (eBin dAdd (eBin dIx (eVar 3) (eC (.int 1))) (eBin dIx (eVar 2) (eC (.int 0)))) aNil))))))
  (sRet (eC (.str "done"))))) sNx)
  (sSeq (sIf (eTst (eBin dEq (eBin dIx (eVar 3) (eC (.int 0))) (eC (.str "lend")))) (sRet (eCall 2 g_law_lent (aCons (eVar 0) (aCons (eVar 3) aNil)))) sNx)
  (sSeq (sSet 4 (eCall 4 g_law_bar (aCons (eVar 0) (aCons (eVar 1) (aCons (eVar 2) (aCons (eVar 3) aNil))))))
  (sSeq (sIf (eTst (eBin dNe (eVar 4) (eC (.str "")))) (sRet (eVar 4)) sNx)
  (sSeq (sSet 5 (eBin dIx (eBin dIx (eVar 0) (eC (.str "given"))) (eBin dIx (eVar 3) (eC (.int 3)))))
  (sSeq (sIf (eTst (eBin dEq (eBin dIx (eVar 3) (eC (.int 0))) (eC (.str "hold")))) (sSeq (sExp (eBm "dict" (eVar 5) (aCons (eDisp [("by", (eBin dIx (eVar 3) (eC (.int 2)))), ("free", (eBin dAdd (eBin dIx (eVar 3) (eC (.int 1))) (eBin dIx (eVar 3) (eC (.int 4)))))]) aNil) mUpdate))
  (sRet (eC (.str "done")))) sNx)
  (sSeq (sSet 6 (eCall 3 g_law_points (aCons (eVar 1) (aCons (eBin dIx (eVar 5) (eC (.str "sort"))) (aCons (eBin dIx (eVar 3) (eC (.int 1))) aNil)))))
  (sSeq (sExp (eCall 4 g_law_sum (aCons (eVar 0) (aCons (eBin dIx (eVar 3) (eC (.int 2))) (aCons (eC (.int 3)) (aCons (eVar 6) aNil))))))
  (sSeq (sExp (eCall 3 g_law_put_out (aCons (eVar 0) (aCons (eBin dIx (eVar 3) (eC (.int 2))) (aCons (eVar 6) aNil)))))
  (sSeq (sExp (eBm "dict" (eVar 5) (aCons (eDisp [("where", (eBin dIx (eVar 3) (eC (.int 2)))), ("paid", (eVar 6))]) aNil) mUpdate))
  (sSeq (sSet 7 (eTup (aCons (eBin dIx (eVar 3) (eC (.int 2))) (aCons (eCall 2 g_law_season (aCons (eVar 2) (aCons (eBin dIx (eVar 3) (eC (.int 1))) aNil))) aNil))))
  (sSeq (sPut (eBin dIx (eVar 0) (eC (.str "taken"))) (eVar 7) (eBin dAdd (eGet2 (eBin dIx (eVar 0) (eC (.str "taken"))) (eVar 7) (eC (.int 0))) (eC (.int 1))))
  (sRet (eC (.str "done")))))))))))))))))
noncomputable def g_law_do : Fn := gOf n_law_do (b_law_do)
abbrev n_law_course : List Str := ["rows", "words", "row"]
noncomputable def b_law_course : DL.Env → Sto → RS :=
  (sSeq (sNew 1 (lLst (aCons (eC (.str "give")) (aCons (eC (.str "help")) (aCons (eC (.str "worn")) (aCons (eC (.str "lend")) (aCons (eC (.str "hold")) (aCons (eC (.str "take")) aNil))))))))
  (sRet (eNew (lComp (iTm (eB1 (sTm (lComp (fun env S => ((eVar 0) env S).bind gIt) (aName 2) [2] bT (eTup (aCons (eBin dIx (eVar 2) (eC (.int 1))) (aCons (eBm "list" (eVar 1) (aCons (eBin dIx (eVar 2) (eC (.int 0))) aNil) mIndex) (aCons (eVar 2) aNil)))))) bSortT)) (aName 2) [2] bT (eBin dIx (eVar 2) (eC (.int 2)))))))
noncomputable def g_law_course : Fn := gOf n_law_course (b_law_course)
abbrev n_Purse_dstr : List Str := ["self", "words", "end", "points"]
noncomputable def b_Purse_dstr (CPurse : Addr) : DL.Env → Sto → RS :=
  (sSeq (sNew 1 (lComp (fun env S => ((eMeth CPurse "lots" 1 (g_Purse_lots CPurse) (eVar 0) aNil) env S).bind gIt) (aTup 2 (asCons (aName 2) (asCons (aName 3) asNil))) [2, 3] bT (eBin dAdd (eBin dAdd (eB (aCons (eVar 3) aNil) (g1 bStr)) (eC (.str "@"))) (eB (aCons (eVar 2) aNil) (g1 bStr)))))
  (sSeq (sIf (eTst (eBin dEq (eVar 1) (eNew (lLst aNil)))) (sNew 1 (lLst (aCons (eC (.str "-")) aNil))) sNx)
  (sSeq (sIf (eTst (eBin dGt (eFld CPurse "debt" (eVar 0)) (eC (.int 0)))) (sNew 1 (lCat (sRf (eVar 1)) (sTm (lLst (aCons (eBin dAdd (eC (.str "-")) (eB (aCons (eFld CPurse "debt" (eVar 0)) aNil) (g1 bStr))) aNil))))) sNx)
  (sRet (eJoin (eC (.str " ")) (sRf (eVar 1)))))))
noncomputable def g_Purse_dstr (CPurse : Addr) : Fn := gOf n_Purse_dstr (b_Purse_dstr CPurse)
abbrev n_Thing_deq : List Str := ["self", "other"]
noncomputable def b_Thing_deq (CThing : Addr) : DL.Env → Sto → RS :=
  (sRet (eAnd (fun env S => ((eVar 1) env S).bind (bIsC CThing)) (eBin dEq (eMeth CThing "parts" 1 (g_Thing_parts CThing) (eVar 0) aNil) (eMeth CThing "parts" 1 (g_Thing_parts CThing) (eVar 1) aNil))))
noncomputable def g_Thing_deq (CThing : Addr) : Fn := gOf n_Thing_deq (b_Thing_deq CThing)
abbrev n_Purse_owes : List Str := ["self"]
noncomputable def b_Purse_owes (CPurse : Addr) : DL.Env → Sto → RS :=
  (sRet (eFld CPurse "debt" (eVar 0)))
noncomputable def g_Purse_owes (CPurse : Addr) : Fn := gOf n_Purse_owes (b_Purse_owes CPurse)
abbrev n_course_to : List Str := ["table", "rules", "rows", "hour", "course", "row"]
noncomputable def b_course_to (CPurse CThing CCourse : Addr) : DL.Env → Sto → RS :=
  (sSeq (sSet 4 (eMake CCourse 3 (g_Course_dinit CCourse) (aCons (eVar 0) (aCons (eVar 1) aNil))))
  (sSeq (sFor (fun env S => ((eCall 1 g_in_course (aCons (eVar 2) aNil)) env S).bind gIt) (aName 5) (sIf (eTst (eBin (dOrd .LtE) (eBin dIx (eVar 5) (eC (.int 1))) (eVar 3))) (sExp (eMeth CCourse "do" 2 (g_Course_do CPurse CThing CCourse) (eVar 4) (aCons (eVar 5) aNil))) sNx))
  (sSeq (sExp (eMeth CCourse "come_to" 2 (g_Course_come_to CPurse CCourse) (eVar 4) (aCons (eVar 3) aNil)))
  (sRet (eVar 4)))))
noncomputable def g_course_to (CPurse CThing CCourse : Addr) : Fn := gOf n_course_to (b_course_to CPurse CThing CCourse)
abbrev n_purse_at : List Str := ["table", "rules", "rows", "house", "hour"]
noncomputable def b_purse_at (CPurse CThing CCourse : Addr) : DL.Env → Sto → RS :=
  (sSeq (sExp (eCall 3 g_need_all (aCons (eVar 0) (aCons (eVar 1) (aCons (eVar 2) aNil)))))
  (sRet (eMeth CCourse "purse_of" 2 (g_Course_purse_of CPurse CCourse) (eCall 4 (g_course_to CPurse CThing CCourse) (aCons (eVar 0) (aCons (eVar 1) (aCons (eVar 2) (aCons (eVar 4) aNil))))) (aCons (eVar 3) aNil))))
noncomputable def g_purse_at (CPurse CThing CCourse : Addr) : Fn := gOf n_purse_at (b_purse_at CPurse CThing CCourse)
abbrev n_law_hours : List Str := ["draws", "rows", "many", "found", "k", "hour"]
noncomputable def b_law_hours : DL.Env → Sto → RS :=
  (sSeq (sNew 3 (lLst (aCons (eC (.int 0)) (aCons (eC (.int (-1))) (aCons (eBin dPow (eC (.int 10)) (eC (.int 9))) aNil)))))
  (sSeq (sFor (iRg1 (eVar 2)) (aName 4) (sSeq (sSet 5 (eIf (eTst (eBin dNe (eVar 1) (eNew (lLst aNil)))) (eBin dIx (eBin dIx (eVar 1) (eCall 2 g_law_draw (aCons (eVar 0) (aCons (eB1 (sRf (eVar 1)) bLen) aNil)))) (eC (.int 1))) (eC (.int 0))))
  (sExp (eBm "list" (eVar 3) (aCons (lIx (lLst (aCons (eVar 5) (aCons (eBin dSub (eVar 5) (eC (.int 1))) (aCons (eBin dAdd (eVar 5) (eCall 2 g_law_draw (aCons (eVar 0) (aCons (eC (.int 30)) aNil)))) (aCons (eCall 2 g_law_draw (aCons (eVar 0) (aCons (eC (.int 99)) aNil))) aNil))))) (eCall 2 g_law_draw (aCons (eVar 0) (aCons (eC (.int 4)) aNil)))) aNil) mAppend))))
  (sRet (eVar 3))))
noncomputable def g_law_hours : Fn := gOf n_law_hours (b_law_hours)
abbrev n_law_gone : List Str := ["table", "rules", "rows", "hour", "own", "row"]
noncomputable def b_law_gone : DL.Env → Sto → RS :=
  (sSeq (sSet 4 (eCall 0 g_law_new aNil))
  (sSeq (sFor (fun env S => ((eCall 1 g_law_course (aCons (eVar 2) aNil)) env S).bind gIt) (aName 5) (sIf (eTst (eBin (dOrd .LtE) (eBin dIx (eVar 5) (eC (.int 1))) (eVar 3))) (sExp (eCall 4 g_law_do (aCons (eVar 4) (aCons (eVar 0) (aCons (eVar 1) (aCons (eVar 5) aNil)))))) sNx))
  (sSeq (sExp (eCall 2 g_law_end (aCons (eVar 4) (aCons (eVar 3) aNil))))
  (sRet (eVar 4)))))
noncomputable def g_law_gone : Fn := gOf n_law_gone (b_law_gone)
abbrev n_sums_at : List Str := ["table", "rules", "rows", "house", "hour", "course"]
noncomputable def b_sums_at (CPurse CThing CCourse : Addr) : DL.Env → Sto → RS :=
  (sSeq (sExp (eCall 3 g_need_all (aCons (eVar 0) (aCons (eVar 1) (aCons (eVar 2) aNil)))))
  (sSeq (sSet 5 (eCall 4 (g_course_to CPurse CThing CCourse) (aCons (eVar 0) (aCons (eVar 1) (aCons (eVar 2) (aCons (eVar 4) aNil))))))
  (sSeq (sExp (eMeth CCourse "purse_of" 2 (g_Course_purse_of CPurse CCourse) (eVar 5) (aCons (eVar 3) aNil)))
  (sRet (eB1 (sRf (eBin dIx (eFld CCourse "counts" (eVar 5)) (eVar 3))) bTuple)))))
noncomputable def g_sums_at (CPurse CThing CCourse : Addr) : Fn := gOf n_sums_at (b_sums_at CPurse CThing CCourse)
abbrev n_law_whole : List Str := ["thing"]
noncomputable def b_law_whole : DL.Env → Sto → RS :=
  (sRet (eAnd (fun env S => ((eVar 0) env S).bind (bIsi "int")) (eNot (fun env S => ((eVar 0) env S).bind (bIsi "bool")))))
noncomputable def g_law_whole : Fn := gOf n_law_whole (b_law_whole)
abbrev n_in_order : List Str := ["things", "found", "thing", "at", "other"]
noncomputable def b_in_order (CThing : Addr) : DL.Env → Sto → RS :=
  (sSeq (sNew 1 (lLst aNil))
  (sSeq (sFor (fun env S => ((eVar 0) env S).bind gIt) (aName 2) (sSeq (sSet 3 (eB1 (sTm (lComp (fun env S => ((eVar 1) env S).bind gIt) (aName 4) [4] (bNot (eTru (eMeth CThing "ahead" 2 (g_Thing_ahead CThing) (eVar 2) (aCons (eVar 4) aNil)))) (eVar 4))) bLen))
  (sExp (eBm "list" (eVar 1) (aCons (eVar 3) (aCons (eVar 2) aNil)) mInsert))))
  (sRet (eVar 1))))
noncomputable def g_in_order (CThing : Addr) : Fn := gOf n_in_order (b_in_order CThing)
abbrev n_where_of : List Str := ["own"]
noncomputable def b_where_of : DL.Env → Sto → RS :=
  (sSeq (sIf (eTru (eBin dIx (eVar 0) (eC (.str "worn")))) (sRet (eC (.str "worn"))) sNx)
  (sRet (eOr (eBin dIx (eVar 0) (eC (.str "where"))) (eC (.str "there")))))
noncomputable def g_where_of : Fn := gOf n_where_of (b_where_of)
abbrev n_things_at : List Str := ["table", "rules", "rows", "hour", "course", "things", "name", "thing"]
noncomputable def b_things_at (CPurse CThing CCourse : Addr) : DL.Env → Sto → RS :=
  (sSeq (sExp (eCall 3 g_need_all (aCons (eVar 0) (aCons (eVar 1) (aCons (eVar 2) aNil)))))
  (sSeq (sSet 4 (eCall 4 (g_course_to CPurse CThing CCourse) (aCons (eVar 0) (aCons (eVar 1) (aCons (eVar 2) (aCons (eVar 3) aNil))))))
  (sSeq (sSet 5 (eCall 1 (g_in_order CThing) (aCons (eNew (eLock (lockF 4 "given") (lComp (fun env S => ((eFld CCourse "given" (eVar 4)) env S).bind gIt) (aName 6) [6] bT (eBin dIx (eBin dIx (eFld CCourse "given" (eVar 4)) (eVar 6)) (eC (.str "thing")))))) aNil)))
  (sRet (eNew (lComp (fun env S => ((eVar 5) env S).bind gIt) (aName 7) [7] bT (eTup (aCons (eVar 7) (aCons (eBin dIx (eBin dIx (eFld CCourse "given" (eVar 4)) (eFld CThing "name" (eVar 7))) (eC (.str "house"))) (aCons (eCall 1 g_where_of (aCons (eBin dIx (eFld CCourse "given" (eVar 4)) (eFld CThing "name" (eVar 7))) aNil)) aNil))))))))))
noncomputable def g_things_at (CPurse CThing CCourse : Addr) : Fn := gOf n_things_at (b_things_at CPurse CThing CCourse)
abbrev n_holder : List Str := ["table", "rules", "rows", "thing", "hour"]
noncomputable def b_holder (CPurse CThing CCourse : Addr) : DL.Env → Sto → RS :=
  (sSeq (sExp (eCall 3 g_need_all (aCons (eVar 0) (aCons (eVar 1) (aCons (eVar 2) aNil)))))
  (sRet (eOr (eMeth CCourse "held_by" 3 (g_Course_held_by CCourse) (eCall 4 (g_course_to CPurse CThing CCourse) (aCons (eVar 0) (aCons (eVar 1) (aCons (eVar 2) (aCons (eVar 4) aNil))))) (aCons (eVar 3) (aCons (eVar 4) aNil))) (eC .non))))
noncomputable def g_holder (CPurse CThing CCourse : Addr) : Fn := gOf n_holder (b_holder CPurse CThing CCourse)
abbrev n_law_thing_rows : List Str := ["own", "found", "name", "thing", "where"]
noncomputable def b_law_thing_rows : DL.Env → Sto → RS :=
  (sSeq (sNew 1 (lLst aNil))
  (sSeq (sFor (fun env S => ((eBin dIx (eVar 0) (eC (.str "given"))) env S).bind gIt) (aName 2) (sSeq (sSet 3 (eBin dIx (eBin dIx (eVar 0) (eC (.str "given"))) (eVar 2)))
  (sSeq (sSet 4 (eIf (eTru (eBin dIx (eVar 3) (eC (.str "worn")))) (eC (.str "worn")) (eOr (eBin dIx (eVar 3) (eC (.str "where"))) (eC (.str "there")))))
  (sExp (eBm "list" (eVar 1) (aCons (eTup (aCons (eBin dIx (eVar 3) (eC (.str "sort"))) (aCons (eBin dIx (eVar 3) (eC (.str "size"))) (aCons (eVar 2) (aCons (eBin dIx (eVar 3) (eC (.str "house"))) (aCons (eVar 4) aNil)))))) aNil) mAppend)))))
  (sRet (eNew (eB1 (sRf (eVar 1)) bSort)))))
noncomputable def g_law_thing_rows : Fn := gOf n_law_thing_rows (b_law_thing_rows)
abbrev n_law_holder : List Str := ["own", "name", "hour", "thing"]
noncomputable def b_law_holder : DL.Env → Sto → RS :=
  (sSeq (sSet 3 (eGet2 (eBin dIx (eVar 0) (eC (.str "given"))) (eVar 1) (eC .non)))
  (sSeq (sIf (bOr (eTst (eBin dIsN (eVar 3) (eC .non))) (bOr (eTru (eBin dIx (eVar 3) (eC (.str "worn")))) (bOr (eTst (eBin dNe (eBin dIx (eVar 3) (eC (.str "where"))) (eC (.str "")))) (eTst (eBin (dOrd .LtE) (eBin dIx (eVar 3) (eC (.str "free"))) (eVar 2)))))) (sRet (eC .non)) sNx)
  (sRet (eBin dIx (eVar 3) (eC (.str "by"))))))
noncomputable def g_law_holder : Fn := gOf n_law_holder (b_law_holder)
end DL

namespace DL
open PySem PySem.Spec PyProof.Rows L2

/-! ### try: .. except x as n: .. except y as m: .. -/
abbrev SuT := Addr → Value → Option Addr → TS
def unS (D : Ends) (i : Nat) : Ends := { nx := fun σ H => D.nx (σ.set i none) H, rt := D.rt, bk := fun σ H => D.bk (σ.set i none) H, ct := fun σ H => D.ct (σ.set i none) H }
def wAll (K : PySem.W.Frag) (Wout : WX) (D : Ends) : List (Value × Nat × SuT) → WX
  | [] => Wout
  | (c, i, ts) :: r => fun cls d σ H => ∃ b, PySem.W.exmOne K cls c = some b ∧ (b = true → ∀ a, H a = none → ts a cls d (unS D i) (σ.set i (some (.ref a))) H) ∧ (b = false → wAll K Wout D r cls d σ H)
inductive HdA (X : Cx) : List ExceptHandler → List (Value × Nat × SuT) → Prop
  | nil : HdA X [] []
  | cons {x n : Str} {c : Value} {i : Nat} {ts : SuT} {b₀ : Stmt} {suite : List Stmt} {np pos' : Pos} {hds : List ExceptHandler} {l : List (Value × Nat × SuT)} (hN : X.N.Nodup) (hi : X.N[i]? = some n) (hln : X.env.kindOf n = some .local) (hc : Names X x c)
      (hsu : ∀ (a : Addr) (oe : Obj) (cls : Value) (d : Option Addr) (pn : List (Addr × Obj)), L2N.Zn cls d oe → (∃ vs, oe.data = .fields vs) → PSs (X.suite a ((a, oe) :: pn)) (b₀ :: suite) (ts a cls d)) (r : HdA X hds l) :
      HdA X (.ExceptHandler (some (.Name x np)) (some n) (b₀ :: suite) pos' :: hds) ((c, i, ts) :: l)
/-- an exception on the ground, before the clauses -/
structure Ground (X : Cx) (B : Heap) (a : Addr) (cls : Value) (d : Option Addr) (sI s' : Shared) : Prop where
  nb : ∀ b o, sI.heap.get? b = some o → b ∉ frs X.stack → B.get? b = some o
  up : sI.heap.UpToSlots s'.heap
  os : s'.os = sI.os
  ag : AllBare s'.gens
  fl : HandSPX.FlyingZ B (X.env :: X.outer) a (L2N.Zn cls d) s'.heap
section
variable {X : Cx}
theorem unmatched {pins : List (Addr × Obj)} {σ : St} {H : Hp} {B : Heap} {a : Addr} {cls : Value} {d : Option Addr} {sI s' : Shared} {D : Ends} {W : WX} (hs : X.stack = X.env :: X.outer) (hf : X.env.frame = some X.env.locals) (tk : L2N.Takes X W) (J : Inv X pins σ H sI) (g : Ground X B a cls d sI s') (na : H a = none) (w : W cls d σ H) :
    wpAny (model X.prog X.w) X.A (handleBy (.ref a) X.env []) (SP X pins D) X.xe s' := by
  refine wpAny_handleBy_nil ?_
  obtain ⟨k1, k2, k3, oe, vs, T, oT, ts, he, hz, hd, h1, hr⟩ := id g.fl
  unfold PySem.passOn
  refine wpAny_bind (wpAny_field he hd h1 ?_)
  rw [if_neg (show ¬ ((Value.ref T == Value.none) = true) by simp)]
  have go : wpAny (model X.prog X.w) X.A (setFlight (.ref a) X.env.frame) (fun _ s4 => wpAny (model X.prog X.w) X.A (throw (.ref a) : Sem Flow) (SP X pins D) X.xe s4) X.xe s' := by
    rw [hf]
    refine HandSPX.setFlight_upZ g.fl fun h4 hh4 up4 => wpAny_throw (tk _ _ ⟨a, B, sI, pins, σ, H, cls, d, rfl, J, g.nb, g.up.trans up4, .inr (.inr ?_), na, g.os, g.ag, w⟩)
    rw [hs]
    exact hh4
  first
    | exact wpAny_bind (wpAny_pure (wpAny_bind go))
    | exact wpAny_bind go
theorem clauses {pins : List (Addr × Obj)} {σ : St} {H : Hp} {B : Heap} {a : Addr} {cls : Value} {d : Option Addr} {sI s' : Shared} {D : Ends} {W : WX} {hds : List ExceptHandler} {l : List (Value × Nat × SuT)} (hs : X.stack = X.env :: X.outer) (hf : X.env.frame = some X.env.locals) (tk : L2N.Takes X W) (J : Inv X pins σ H sI) (g : Ground X B a cls d sI s')
    (na : H a = none) (nL : a ≠ X.env.locals) (nF : a ∉ X.fs) (hk : HdA X hds l) (w : wAll X.K W D l cls d σ H) :
    wpAny (model X.prog X.w) X.A (handleBy (.ref a) X.env hds) (SP X pins D) X.xe s' := by
  induction hk with
  | nil => exact unmatched hs hf tk J g na w
  | @cons x n c i ts b₀ suite np pos' hds2 l2 hN hi hln hc hsu r ih =>
    obtain ⟨b, hb1, hyes, hno⟩ := w
    obtain ⟨oe, vs, he, hz, hd⟩ := g.fl.there
    have J3 : Inv X pins σ H s' := J.landed g.nb g.fl.1 g.up g.os g.ag
    have S3 := J3.suite he hd na nL nF
    refine wpAny_handleBy_cons (codeAny_handlers_test ?_) (by intro q; cases q)
    have LT : PySem.W.Looks (model X.prog X.w) s'.heap (typeOf (.ref a)) cls := fun A Q E s k q => wpAny_typeOf_ref (k _ _ he) (by rw [hz.1]; exact q)
    have LM := PySem.W.exm_one (M := model X.prog X.w) J3.kIn LT hb1
    have named : ∀ {Q : Value → Shared → Prop} {E : Value → Shared → Prop}, Q c s' → wpAny (model X.prog X.w) (X.A.mark (some (.ref a))) (eval (.Name x np) X.env) Q E s' := by
      intro Q E q
      obtain ⟨hg, hdbg, hm | ⟨hm, hv, hnn⟩⟩ := hc
      · exact ld_glob (X := X.suite a ((a, oe) :: (X.pn ++ pins))) S3 hg hm q hdbg
      · exact ld_blt (X := X.suite a ((a, oe) :: (X.pn ++ pins))) S3 hg hm hv q hnn hdbg
    refine named (LM.here ?_)
    cases b with
    | false => exact ih (hno rfl)
    | true =>
      refine codeAny_handlers_suite_as (HandSPX.lands_againZ g.fl fun h4 fl4 up4 => ?_)
      have J4 : Inv X pins σ H { s' with heap := h4 } := J.landed g.nb fl4.1 (g.up.trans up4) g.os g.ag
      obtain ⟨oe4, vs4, he4, hz4, hd4⟩ := fl4.there
      have S4 := J4.suite he4 hd4 na nL nF
      refine store_ok (X := X.suite a ((a, oe4) :: (X.pn ++ pins))) (v := .ref a) S4 hN hi (.inl hln) rfl (fun s5 S5 => ?_) (.inr hln)
      refine wpAny_mono ((hsu a oe4 cls d (X.pn ++ pins) hz4 ⟨_, hd4⟩).run [] s5 _ H _ S5 (hyes rfl a na)) (fun f s6 hsp => ?_) (fun _ _ z => z.elim)
      have fin : ∀ {σ6 : St} {H6 : Hp} {Q : Shared → Prop}, Inv (X.suite a ((a, oe4) :: (X.pn ++ pins))) [] σ6 H6 s6 → (∀ s7, Inv X pins (σ6.set i none) H6 s7 → Q s7) → wpAny (model X.prog X.w) X.A (do bindName X.env n .none; unbindBehindTheSuite X.env n pos') (fun _ s7 => Q s7) X.xe s6 :=
        fun S6 hq => gone_ok (S6.unsuite J.ok) hN hi hln hq
      cases f with
      | next => obtain ⟨σ6, H6, S6, q6⟩ := hsp; exact fin S6 fun s7 J7 => ⟨_, _, J7, q6⟩
      | brk => obtain ⟨σ6, H6, S6, q6⟩ := hsp; exact fin S6 fun s7 J7 => ⟨_, _, J7, q6⟩
      | cont => obtain ⟨σ6, H6, S6, q6⟩ := hsp; exact fin S6 fun s7 J7 => ⟨_, _, J7, q6⟩
      | ret u => obtain ⟨v6, σ6, H6, S6, r6, q6⟩ := hsp; exact fin S6 fun s7 J7 => ⟨_, _, _, J7, r6, q6⟩
theorem ps_try_all {body : List Stmt} {h₀ : ExceptHandler} {hds : List ExceptHandler} {l : List (Value × Nat × SuT)} {pos : Pos} {tb : WX → TS} {W : WX} (hs : X.stack = X.env :: X.outer) (hf : X.env.frame = some X.env.locals) (tk : L2N.Takes X W)
    (hb : ∀ (W : WX) (pn : List (Addr × Obj)) (xe : Value → Shared → Prop), L2N.Takes (X.tr pn xe) W → PassesOwn (model X.prog X.w) X.A X.env xe → PSs (X.tr pn xe) body (tb W))
    (hh : HdA X (h₀ :: hds) l) : PS X (.Try body (h₀ :: hds) [] [] pos) (fun D σ H => tb (wAll X.K W D l) D σ H) := by
  refine ⟨fun pins s σ H D I h => ?_⟩
  have ok := I.ok
  have hfr : X.A.frames = some (X.env :: X.outer) := by rw [ok.frames, hs]
  refine wpAny_Try_except ?_
  refine wpAny_mono ((hb (wAll X.K W D l) (X.pn ++ pins) (fun e s1 => wpAny (model X.prog X.w) X.A (noteFrame e X.env) (fun _ s2 => wpAny (model X.prog X.w) X.A (setFlight e none) (fun _ s3 =>
    wpAny (model X.prog X.w) X.A (handleBy e X.env (h₀ :: hds)) (SP X pins D) X.xe s3) X.xe s2) X.xe s1) ?_ PassesOwn.looking).run [] s σ H D (I.toTry _) h) ?_ fun _ _ z => z
  · rintro u s1 ⟨a, B, sI, pins', σ', H', cls, d, rfl, J', nb, up, sky, na, os, ag, w⟩
    have J : Inv X pins σ' H' sI := J'.ofTry ok
    have sky' : Sky B (X.env :: X.outer) a (L2N.Zn cls d) X.env.locals s1.heap := by rw [← hs]; exact sky
    show wpAny (model X.prog X.w) X.A (noteFrame (.ref a) X.env) _ _ _
    refine L2N.Sky.land L2N.Zn.steady hfr hf sky' fun h3 fl3 up3 => ?_
    obtain ⟨oe, vs, he, hz, hd⟩ := fl3.there
    have nfr : a ∉ frs (X.env :: X.outer) := fun hm => by
      obtain ⟨_, o, e, hnf⟩ := fl3.2.2.1.mem hm
      rw [he] at e
      cases e
      exact hnf _ hd
    have nL : a ≠ X.env.locals := fun z => nfr (List.mem_filterMap.mpr ⟨X.env, List.mem_cons_self, by rw [hf, z]⟩)
    have nF : a ∉ X.fs := fun hm => by
      obtain ⟨e, he, q⟩ := List.mem_filterMap.mp hm
      exact nfr (List.mem_filterMap.mpr ⟨e, List.mem_cons_of_mem _ he, q⟩)
    exact clauses hs hf tk J ⟨nb, up.trans up3, os, ag, fl3⟩ na nL nF hh w
  · intro f s1 hsp
    cases f with
    | next => obtain ⟨σ', H', J', q⟩ := hsp; exact wpAny_execs_nil ⟨σ', H', J'.ofTry ok, q⟩
    | brk => obtain ⟨σ', H', J', q⟩ := hsp; exact ⟨σ', H', J'.ofTry ok, q⟩
    | cont => obtain ⟨σ', H', J', q⟩ := hsp; exact ⟨σ', H', J'.ofTry ok, q⟩
    | ret u => obtain ⟨v, σ', H', J', r, q⟩ := hsp; exact ⟨v, σ', H', J'.ofTry ok, r, q⟩
end
end DL

namespace DL
open PySem PySem.Spec PyProof.Rows L2 L2H

/-! ### a comprehension over a range, while an exception is handled -/
/-- a block's context that bears the pin p -/
abbrev blkP (X : Cx) (p : Addr × Obj) (s : Shared) (H : Hp) (scope : Scope) (cenv : PySem.Env) (fp : List Addr) : Cx := { X.blk s H scope cenv fp with pn := [p] }
section
variable {X : Cx}
theorem toP {p : Addr × Obj} {s0 s : Shared} {H0 H : Hp} {scope : Scope} {cenv : PySem.Env} {fp : List Addr} {σ : St} (I : Inv (X.blk s0 H0 scope cenv fp) [] σ H s) (hp : s.heap.get? p.1 = some p.2 ∧ H p.1 = none ∧ p.1 ≠ cenv.locals ∧ p.1 ∉ frs X.stack ∧ ∀ v, p.2.data ≠ .cell v) :
    Inv (blkP X p s0 H0 scope cenv fp) [] σ H s :=
  ⟨⟨I.ok.mod, I.ok.kind, I.ok.glob, I.ok.blt, I.ok.above, I.ok.inj, I.ok.has, I.ok.cab, I.ok.hd, I.ok.frames, I.ok.stk, I.ok.exf, I.ok.bs, I.ok.bsz, I.ok.noex, I.ok.exfs, I.ok.funs, I.ok.frf⟩, I.os, I.bare, I.base, I.loc, I.cell, I.free, I.freeC, fun q hq => by
    have e : q = p := by simpa using (show q ∈ [p] ++ ([] : List (Addr × Obj)) from hq)
    rw [e]
    exact hp, I.hok, I.len⟩
theorem lcP {pins : List (Addr × Obj)} {s : Shared} {σ : St} {H : Hp} {Q : VK} {elt tg iter : Expr} {ifs : List Expr} {scope : Scope} {own : List (Str × Nat)} {pos pos' : Pos} {wi : TI} {g : TG} {tt : TT} {te : TE} {use : Option (Value → Sem Unit)} {Qf : Value → Shared → Prop}
    (hot : HotC X) (hN : X.N.Nodup) (I : Inv X pins σ H s) (hi : PIH X tg iter wi) (ok : BlkOk X.N X.env.scope scope own)
    (hg : ∀ (p : Addr × Obj) (s : Shared) (H : Hp) (C : Addr) (cl : List (Str × Addr)) (fp : List Addr), PG (blkP X p s H scope (compEnvC scope cl C X.env) fp) tg g)
    (ht : ∀ (p : Addr × Obj) (s : Shared) (H : Hp) (C : Addr) (cl : List (Str × Addr)) (fp : List Addr), PTs (blkP X p s H scope (compEnvC scope cl C X.env) fp) ifs tt)
    (he : ∀ (p : Addr × Obj) (s : Shared) (H : Hp) (C : Addr) (cl : List (Str × Addr)) (fp : List Addr), PE (blkP X p s H scope (compEnvC scope cl C X.env) fp) elt te) (hs : ∀ x, foldedSetIterable iter X.env x = pure x)
    (h : tLc wi g tt te (own.map (·.2)) σ H Q)
    (fin : ∀ D C s' m H', Inv X pins σ H' s' → Q (.ref D) H' → s'.heap.Ns C m → FpOk X pins H' C → compPost (model X.prog X.w) X.A X.xe use Qf (.ref D) C (.ok .next) s') :
    wpAny (model X.prog X.w) X.A (comprehension (.ListComp elt [⟨tg, iter, ifs, 0⟩] scope pos) scope X.env pos' (newList []) false (eval iter X.env) use) Qf X.xe s := by
  obtain ⟨p, hp1, hpm⟩ := hot
  refine wpAny_comprehension_free (use := use) rfl hs (closure_ok fun y hy e => by
      rcases ok.free y hy e with k | k
      · exact I.ok.has _ (.inl k)
      · exact I.ok.has _ (.inr k)) ok.kind (fun y hy e => by rw [ok.uniq y hy, e]) (thn (hi.run pins s σ H _ I h) fun xv s1 hx => thn hx ?_)
  rintro itv s2 ⟨it, fp, tn, J, H2, rfl, I2, T, st2, f2, q⟩
  refine wpAny_newObj_type (newEnv_comp ?_) (by show 0 ≤ sizeLine; decide)
  generalize hD : s2.heap.objs.size = D
  have hDn : H2 D = none := I2.hok.fresh (Nat.le_of_eq hD)
  obtain ⟨W, ⟨m0, w0⟩, turn⟩ := q D hDn
  have P2 := I2.pin p (List.mem_append_left _ hpm)
  generalize hs3 : ({ s2 with heap := s2.heap.push { cls := .type "list", data := .seq ([] : List Value).toArray } } : Shared) = s3
  have h3 : s3.heap = s2.heap.push { cls := .type "list", data := .seq ([] : List Value).toArray } := by rw [← hs3]
  have I3 : Inv X pins σ (upd H2 D (.lst [])) s3 := by
    rw [← hs3]
    refine I2.laid (t' := s2.toks) (fun b o e => Heap.get?_push_of_some _ e) (Nat.le_of_eq hD) ⟨Nat.zero_le _, [], 0, .nil, ?_⟩
    rw [← hD]
    exact Heap.get?_push_size _ rfl
  have sz : ∀ b ∈ fp, b < s2.heap.objs.size := fun b hb => by
    obtain ⟨o, e, _⟩ := T.obj _ _ st2 b hb
    exact Heap.lt_size e
  have f3 : ∀ b ∈ fp, FpOk X pins (upd H2 D (.lst [])) b ∧ b < s3.heap.objs.size := fun b hb => by
    have hlt := sz b hb
    refine ⟨⟨?_, (f2 b hb).2⟩, by rw [h3, Heap.size_push]; exact Nat.lt_succ_of_lt hlt⟩
    rw [upd_ne (by rw [← hD]; exact Nat.ne_of_lt hlt)]
    exact (f2 b hb).1
  have P3 := I3.pin p (List.mem_append_left _ hpm)
  have st3 : tn 0 s3.heap := T.keep _ _ _ st2 fun b _ o e => by rw [h3]; exact Heap.get?_push_of_some _ e
  have I4' := block_start I3 ok hN f3
  have pNL : p.1 ≠ s3.heap.objs.size := Nat.ne_of_lt (Heap.lt_size P3.1)
  have I4 := toP (p := p) I4' ⟨pushCells_keeps _ _ _ _ (Heap.get?_push_of_some _ P3.1), P3.2.1, pNL, fun hm => (List.mem_cons.mp (I3.stkSub p.1 hm)).elim P3.2.2.1 P3.2.2.2.1, P3.2.2.2.2⟩
  have pg := hg p s3 (upd H2 D (.lst [])) s3.heap.objs.size (cellsFrom (s3.heap.objs.size + 1) scope.names (cloFrom X.env.cells scope.names [])) fp
  have pt := ht p s3 (upd H2 D (.lst [])) s3.heap.objs.size (cellsFrom (s3.heap.objs.size + 1) scope.names (cloFrom X.env.cells scope.names [])) fp
  have pe := he p s3 (upd H2 D (.lst [])) s3.heap.objs.size (cellsFrom (s3.heap.objs.size + 1) scope.names (cloFrom X.env.cells scope.names [])) fp
  show codeAny _ _ (.compStart (.ListComp elt [⟨tg, iter, ifs, 0⟩] scope pos) 0 (.ref it) (.ref D) (compEnvC scope (cellsFrom (s3.heap.objs.size + 1) scope.names (cloFrom X.env.cells scope.names [])) s3.heap.objs.size X.env)) (compPost (model X.prog X.w) X.A X.xe use Qf (.ref D) s3.heap.objs.size) { s3 with heap := pushCells (s3.heap.push { cls := .type "dict", data := .dict #[] }) scope.names }
  have nfp : ∀ b ∈ fp, (upd H2 D (.lst [])) b = none := fun b hb => (f3 b hb).1.1
  have pfp : ∀ b ∈ fp, p.1 ≠ b := fun b hb => (f2 b hb).2.2.2.2.2 p (List.mem_append_left _ hpm)
  generalize hce : compEnvC scope (cellsFrom (s3.heap.objs.size + 1) scope.names (cloFrom X.env.cells scope.names [])) s3.heap.objs.size X.env = ce at I4 pg pt pe ⊢
  have cL : ce.locals = s3.heap.objs.size := by subst hce; rfl
  generalize hH3 : upd H2 D (.lst []) = H3 at I3 I4 pg pt pe w0 nfp f3
  generalize hs4 : ({ s3 with heap := pushCells (s3.heap.push { cls := .type "dict", data := .dict #[] }) scope.names } : Shared) = s4 at I4 ⊢
  have st4 : tn 0 s4.heap := T.keep _ _ _ st3 fun b _ o e => by rw [← hs4]; exact pushCells_keeps _ _ _ _ (Heap.get?_push_of_some _ e)
  have hotB : HotC (blkP X p s3 H3 scope ce fp) := ⟨p, hp1, List.mem_singleton.mpr rfl⟩
  have stat : ∀ {σ' : St} {H' : Hp} {s' : Shared}, Inv (blkP X p s3 H3 scope ce fp) [] σ' H' s' → (∀ b ∈ fp, H' b = none) → ∀ b ∈ fp, FpOk (blkP X p s3 H3 scope ce fp) [] H' b := fun {σ' H' s'} I' hn b hb =>
    ⟨hn b hb, (I'.ok.exf b hb).1, I'.ok.exfs b hb, .inl hb, fun x c e => (I'.ok.exf b hb).2 x c e, fun r hr => by
      have e : r = p := by simpa using (show r ∈ [p] ++ ([] : List (Addr × Obj)) from hr)
      rw [e]
      exact pfp b hb⟩
  have loop : codeAny (model X.prog X.w) X.A (.compLoop (.ListComp elt [⟨tg, iter, ifs, 0⟩] scope pos) 0 (.ref it) (.ref D) ce) (compPost (model X.prog X.w) X.A X.xe use Qf (.ref D) s3.heap.objs.size) s4 := by
    refine compLoop_any (fun n s' => ∃ i H', Inv (blkP X p s3 H3 scope ce fp) [] (wipe σ (own.map (·.2))) H' s' ∧ tn i s'.heap ∧ (∀ b ∈ fp, H' b = none) ∧ W i n H') ?_ m0 ⟨0, H3, I4, st4, nfp, w0⟩
    rintro n s5 ⟨i, H5, I5, st5, n5, w5⟩
    rcases turn i n H5 w5 with ⟨stop, qq⟩ | ⟨go, Nx, hNx, step⟩
    · refine thnF (T.done (blkP X p s3 H3 scope ce fp) rfl rfl rfl hotB i [] s5 _ H5 (fun _ _ => False) I5 (stat I5 n5) st5 stop) ?_
      rintro r s6 ⟨rfl, I6⟩
      have I7 : Inv X pins σ H5 s6 := I3.call' (ch := fp) I6.os I6.base I6.hok I6.bare fun b hb => ⟨(f3 b hb).1.2.2.2.1, (f3 b hb).1.2.1, (f3 b hb).1.2.2.2.2.1, (f3 b hb).1.2.2.2.2.2⟩
      have nC : H5 s3.heap.objs.size = none := by
        have z : H5 ce.locals = none := I6.free
        rw [cL] at z
        exact z
      obtain ⟨m, hn, _⟩ := I6.loc
      have hn : s6.heap.Ns ce.locals m := hn
      rw [cL] at hn
      exact fin D s3.heap.objs.size s6 m H5 I7 qq hn (I3.fpOk (Nat.le_refl _) nC)
    · refine thnF (T.item (blkP X p s3 H3 scope ce fp) rfl rfl rfl hotB i [] s5 _ H5 (fun _ _ => False) I5 (stat I5 n5) st5 go) ?_
      rintro r s6 ⟨u, rfl, h6⟩
      refine thnF h6 ?_
      rintro _ s7 ⟨x, H7, I7, r7, y7, st7, n7⟩
      have I7' := I7.pinned (stat I7 n7) (T.obj _ _ st7)
      refine thnF (pg.run _ s7 _ H7 x u _ I7' r7 (step x H7 y7)) ?_
      rintro _ s8 ⟨σ8, H8, I8, hw8, q8⟩
      refine thnF (pt.run _ s8 σ8 H8 _ I8 q8) ?_
      rintro b s9 ⟨H9, I9, q9⟩
      have next : ∀ {s' : Shared} {H' : Hp}, Inv (blkP X p s3 H3 scope ce fp) ([] ++ pinsAt fp s7.heap) σ8 H' s' → Nx H' → ∃ m, m < n ∧ ∃ i H', Inv (blkP X p s3 H3 scope ce fp) [] (wipe σ (own.map (·.2))) H' s' ∧ tn i s'.heap ∧ (∀ b ∈ fp, H' b = none) ∧ W i m H' := by
        intro s' H' I' nx
        obtain ⟨m', hm, w'⟩ := hNx H' nx
        have pin' : ∀ b ∈ fp, ∀ o, s7.heap.get? b = some o → s'.heap.get? b = some o ∧ H' b = none := fun b hb o e =>
          ⟨(I'.pin (b, o) (List.mem_append_right _ (List.mem_append_right _ (mem_pinsAt hb e)))).1, (I'.pin (b, o) (List.mem_append_right _ (List.mem_append_right _ (mem_pinsAt hb e)))).2.1⟩
        refine ⟨m', hm, i + 1, H', (I'.unpinned (pins := [])).weak (by rw [← hw8, wipe_length]) (fun j v e => ?_), T.keep _ _ _ st7 fun b hb o e => (pin' b hb o e).1, fun b hb => ?_, w'⟩
        · rw [← hw8] at e
          exact (wipe_some e).1
        · obtain ⟨o, e, _⟩ := T.obj _ _ st7 b hb
          exact (pin' b hb o e).2
      cases b with
      | false =>
        simp only [Bool.false_eq_true, if_false] at q9 ⊢
        exact next I9 q9
      | true =>
        simp only [if_true] at q9 ⊢
        refine thnF (pe.run _ s9 σ8 H9 _ I9 q9) ?_
        rintro z s10 ⟨yv, H10, I10, r10, acc, hD10, hz10, nx⟩
        exact app_ok (X := blkP X p s3 H3 scope ce fp) I10 hD10 hz10 r10 fun s11 I11 => next I11 nx
  exact codeAny_compStart_list loop (T.self X.A 0 _ _ _ st4 loop)
theorem pe_lcP {elt tg iter : Expr} {ifs : List Expr} {scope : Scope} {own : List (Str × Nat)} {pos : Pos} {wi : TI} {g : TG} {tt : TT} {te : TE} (hot : HotC X) (hN : X.N.Nodup) (hi : PIH X tg iter wi) (ok : BlkOk X.N X.env.scope scope own)
    (hg : ∀ (p : Addr × Obj) (s : Shared) (H : Hp) (C : Addr) (cl : List (Str × Addr)) (fp : List Addr), PG (blkP X p s H scope (compEnvC scope cl C X.env) fp) tg g)
    (ht : ∀ (p : Addr × Obj) (s : Shared) (H : Hp) (C : Addr) (cl : List (Str × Addr)) (fp : List Addr), PTs (blkP X p s H scope (compEnvC scope cl C X.env) fp) ifs tt)
    (he : ∀ (p : Addr × Obj) (s : Shared) (H : Hp) (C : Addr) (cl : List (Str × Addr)) (fp : List Addr), PE (blkP X p s H scope (compEnvC scope cl C X.env) fp) elt te) (hs : ∀ x, foldedSetIterable iter X.env x = pure x := by intro _; rfl) :
    PE X (.ListComp elt [⟨tg, iter, ifs, 0⟩] scope pos) (tLc wi g tt te (own.map (·.2))) := by
  refine ⟨fun pins s σ H Q I h => ?_⟩
  rw [eval_ListComp]
  refine lcP hot hN I hi ok hg ht he hs h ?_
  rintro D C s' m H' I' q hn ⟨f0, f1, f2, f3, f4, f5⟩
  exact ⟨m, hn, fun h'' sb => ⟨.ref D, H', I'.turned (t' := s'.toks) (fun b o hb e => (sb.2 b hb).trans e) f0 f1 f3 f4 f5, rfl, q⟩⟩
end
end DL

namespace DL
open PySem PySem.Spec PyProof.Rows L2 L2H

/-! ### the exception that is handled, as a value -/
structure ExcP (X : Cx) (p : Addr × Obj) (C : Addr) (d : Option Addr) : Prop where
  mem : p ∈ X.pn
  zn : L2N.Zn (.ref C) d p.2
  fl : ∃ vs, p.2.data = .fields vs
  dd : ∀ dx, d = some dx → ∃ o, X.s_0.heap.get? dx = some o ∧ dx ∉ X.ex
section
variable {X : Cx} {W : WX} {N : List Str} {vis loc : List Nat} {gls : List Str} {p : Addr × Obj} {C : Addr} {d : Option Addr} {pos pp p2 : Pos}
theorem ExcP.inst {pins : List (Addr × Obj)} {σ : St} {H : Hp} {s : Shared} (hp : ExcP X p C d) (I : Inv X pins σ H s) : ∃ od, PySem.W.InstAt s.heap p.1 p.2 C od := by
  have g := (I.pin p (List.mem_append_left _ hp.mem)).1
  obtain ⟨vs, hv⟩ := hp.fl
  have no : PySem.W.notCls p.2 = true := by
    unfold PySem.W.notCls
    rw [hv]
  cases hd : d with
  | none =>
    refine ⟨none, g, hp.zn.1, no, ?_⟩
    rw [hp.zn.2.1, hd]
    trivial
  | some dx =>
    obtain ⟨o, ho, hx⟩ := hp.dd dx hd
    obtain ⟨o', ho'⟩ := I.base.there dx o ho hx
    refine ⟨some o', g, hp.zn.1, no, ?_⟩
    rw [hp.zn.2.1, hd]
    exact ho'
theorem call_isP (T : ExcC X.K C) (hp : ExcP X p C d) : CallR X (.builtin "isinstance") (rIsE X.K C p.1) := by
  rintro pins s σ H xs us Q I r ⟨c, cv, b, rfl, hcv, e, q⟩
  cases r with
  | cons rx rr =>
    cases rr with
    | cons rt rr =>
      cases rr
      cases rx
      have ec := hcv _ rt
      subst ec
      obtain ⟨od, J⟩ := hp.inst I
      obtain ⟨cd, hcd, _⟩ := PySem.W.any_some T.hd
      exact PySem.W.kia_one (PySem.W.kitx_exc (od := od) (by rw [hcd]; rfl) T.hg T.hk T.hs T.ha T.hn T.ht T.hm) I.kIn J e (fun z => nomatch z) fun tk => ⟨.bl b, H, I.kept (t' := tk) fun _ _ z => z, rfl, q⟩
/-- isinstance(e, y), e the exception at a -/
def eIsP (j : Nat) (a : Addr) (b : Bool) : Env → Sto → R D := fun env S => match env[j]? with
  | some (some (.con (.ref a'))) => if a' = a then .ok (.bl b) S else .bad
  | _ => .bad
theorem isP_go {e e2 : Expr} {cv : Value} {v : V} {b : Bool} {j : Nat} (T : ExcC X.K C) (hp : ExcP X p C d) (pe : PE X e (tD X.K (eVar j) W)) (p2' : PE X e2 (tC v)) (hv : ∀ u, RelV v u → u = cv) (hk : PySem.W.kitOne X.K (.ref C) cv = some b) (hgl : Gl X "isinstance") (hm : X.mg "isinstance" = none)
    (hs : starEach [e, e2] X.env = (false, eval e X.env) :: starEach [e2] X.env) (hs2 : starEach [e2] X.env = [(false, eval e2 X.env)]) (hpl : (backTo pos (starEach [e2] X.env)).any (·.1) = false) :
    PE X (.Call (.Name "isinstance" pp) [e, e2] [] pos) (tD X.K (eIsP j p.1 b) W) := by
  refine PE.imp (pe_callB (call_isP T hp) hgl hm (by decide +kernel) (pa_cons pe (pa_cons p2' pa_nil hs2) hs) (by decide +kernel) (by decide +kernel) hs hpl) fun σ H Q ⟨ι, env, S, r, en, h⟩ => ⟨ι, env, S, r, en, ?_⟩
  unfold eIsP at h
  split at h
  · rename_i a' he
    split at h
    · rename_i ha
      subst ha
      have : eVar j env S = .ok (.con (.ref p.1)) S := by
        unfold eVar
        rw [he]
      rw [this]
      intro ι1 H1 u e1 r1 d1
      cases d1
      exact ⟨v, cv, b, rfl, hv, hk, h ι1 H1 (.bl b) e1 r1 (.bl b)⟩
    · exact h.elim
  · exact h.elim
theorem de_isP {j : Nat} {n y : Str} {D0 : Addr} {b : Bool} {q1 : Pos} (c : Ctx0 X W N vis loc gls) (T : ExcC X.K C) (hp : ExcP X p C d) (hm : X.mg "isinstance" = none) (hy : X.mg y = some (.ref D0)) (hk : PySem.W.kitOne X.K (.ref C) (.ref D0) = some b) (hN : N[j]? = some n := by rfl) (hv : vis.contains j = true := by rfl) (hg : gls.contains ("isinstance" : Str) = true := by decide +kernel) (hgy : gls.contains y = true := by decide +kernel)
    (hd : (n == ("__debug__" : Str)) = false := by decide +kernel) (hcd : (n == ("__classdict__" : Str)) = false := by decide +kernel) (hdy : (y == ("__debug__" : Str)) = false := by decide +kernel)
    (hs : starEach [.Name n q1, .Name y p2] X.env = (false, eval (.Name n q1) X.env) :: starEach [.Name y p2] X.env := by rfl) (hs2 : starEach [.Name y p2] X.env = [(false, eval (.Name y p2) X.env)] := by rfl) (hpl : (backTo pos (starEach [.Name y p2] X.env)).any (·.1) = false := by rfl) :
    PE X (.Call (.Name "isinstance" pp) [.Name n q1, .Name y p2] [] pos) (tD X.K (eIsP j p.1 b) W) :=
  isP_go T hp (de_var0 c j hN hv hd hcd) (pe_glob (v := .ref D0) (c.hg y (by simpa using hgy)) hy rfl hdy) (fun u r => by cases r; rfl) hk (c.hg _ (by simpa using hg)) hm hs hs2 hpl
theorem de_isPV {j : Nat} {n : Str} {b : Bool} {q1 : Pos} (c : Ctx0 X W N vis loc gls) (T : ExcC X.K C) (hp : ExcP X p C d) (hm : X.mg "isinstance" = none) (hy : X.mg "ValueError" = none) (hk : PySem.W.kitOne X.K (.ref C) (.type "ValueError") = some b) (hN : N[j]? = some n := by rfl) (hv : vis.contains j = true := by rfl) (hg : gls.contains ("isinstance" : Str) = true := by decide +kernel) (hgy : gls.contains ("ValueError" : Str) = true := by decide +kernel)
    (hd : (n == ("__debug__" : Str)) = false := by decide +kernel) (hcd : (n == ("__classdict__" : Str)) = false := by decide +kernel)
    (hs : starEach [.Name n q1, .Name "ValueError" p2] X.env = (false, eval (.Name n q1) X.env) :: starEach [.Name "ValueError" p2] X.env := by rfl) (hs2 : starEach [.Name "ValueError" p2] X.env = [(false, eval (.Name "ValueError" p2) X.env)] := by rfl) (hpl : (backTo pos (starEach [.Name "ValueError" p2] X.env)).any (·.1) = false := by rfl) :
    PE X (.Call (.Name "isinstance" pp) [.Name n q1, .Name "ValueError" p2] [] pos) (tD X.K (eIsP j p.1 b) W) :=
  isP_go T hp (de_var0 c j hN hv hd hcd) (pe_bltn (v := .ty "ValueError") (c.hg _ (by simpa using hgy)) hy PyProof.Rows.Boot.«ValueError» rfl (by decide +kernel) (by decide +kernel)) (fun u r => by cases r; rfl) hk (c.hg _ (by simpa using hg)) hm hs hs2 hpl
/-- an item of a list, by place -/
def dIxL (x y : D) (S : Sto) : R D := match x, y with
  | .ref n, .int i => (match S[n]? with
    | some (.lst xs) => R.ofO (L2.atI xs i) S
    | _ => .bad)
  | _, _ => .bad
theorem de_ixL {a b : Expr} {fa fb : Env → Sto → R D} (ha : PE X a (tD X.K fa W)) (hb : PE X b (tD X.K fb W)) (hs : PlainIx b := by intro _ _; rfl) : PE X (.Subscript a b pos) (tD X.K (eBin dIxL fa fb) W) := by
  refine PE.imp (pe_ix ix_list ha hb hs) fun σ H Q ⟨ι, env, S, r, en, h⟩ => ⟨ι, env, S, r, en, (ends.bind h).imp fun v H1 ⟨ι1, x, S1, _, e1, r1, d1, h1⟩ => ⟨ι1, env, S1, r1, en.mono e1.toGr, (ends.bind h1).imp fun w H2 ⟨ι2, y, S2, _, e2, r2, d2, h2⟩ => ?_⟩⟩
  have d1' := d1.mono e2.toGr
  unfold dIxL at h2
  split at h2
  · rename_i n i
    split at h2
    · rename_i xs hx
      cases d1' with
      | ref hn =>
        cases d2
        obtain ⟨vs, q1, q2⟩ := r2.lst hx hn
        obtain ⟨d, e, h3⟩ := ofO_ret h2
        obtain ⟨u, e3, du⟩ := q2.atI e
        exact ⟨_, vs, _, u, rfl, rfl, SqL.of q1, e3, h3 ι2 H2 _ (Ext.refl _ _) r2 du⟩
    · exact h2.elim
  · exact h2.elim
end
end DL

namespace DL
open PySem PySem.Spec PyProof.Rows L2 L2H

/-! ### a comprehension over range(n), while an exception is handled -/
section
variable {X : Cx} {W : WX} {N : List Str} {vis loc vis2 loc2 : List Nat} {gls gls2 : List Str} {tg iter elt e : Expr} {ifs : List Expr} {pos p : Pos} {scope : Scope} {fa fe : Env → Sto → R D} {ft : Env → Sto → R Bool} {fi : Env → Sto → R Src} {asg : Asg} {ts : List Nat}
theorem di_rg1H (c : Ctx0 X W N vis loc gls) (hm : X.mg "range" = none) (ha : PE X e (tD X.K fa W)) (hg : gls.contains ("range" : Str) = true := by decide +kernel) (hs : starEach [e] X.env = [(false, eval e X.env)] := by rfl) : PIH X tg (.Call (.Name "range" p) [e] [] pos) (tI X.K (iRg1 fa) W) := by
  have P := pi_range1H (tg := tg) (p := p) (pos := pos) (c.hg "range" (by simpa using hg)) hm (pa_cons ha pa_nil hs) hs
  refine ⟨fun pins s σ H R I ⟨ι, env, S, r, en, h⟩ => P.run pins s σ H R I ⟨ι, env, S, r, en, (ends.bind h).imp ?_⟩⟩
  rintro v H1 ⟨ι1, x, S1, _, e1, r1, d1, h1⟩
  cases d1 with
  | int j =>
    simp only at h1
    split at h1
    · rename_i hj
      have hj' := of_decide_eq_true hj
      refine ⟨j, rfl, hj'.1, hj'.2, h1 ι1 H1 _ (Ext.refl _ _) r1 ?_⟩
      have e : (j - 0).toNat = j.toNat := by rw [Int.sub_zero]
      show ItD X.K _ _ _ (rngL 0 j) Tru
      unfold rngL
      rw [e]
      exact it_rng
    · exact h1.elim
  | _ => exact h1.elim
theorem Ctx0.blkP (c : Ctx0 X W N vis loc gls) (h : scOk N scope vis2 loc2 gls2 = true) (q : Addr × Obj) (s : Shared) (H : Hp) (C : Addr) (cl : List (Str × Addr)) (fp : List Addr) : Ctx0 (DL.blkP X q s H scope (compEnvC scope cl C X.env) fp) W0 N vis2 loc2 gls2 where
  hN := c.hN
  nd := c.nd
  tk := fun u s' ⟨_, _, _, _, _, _, _, _, _, _, _, _, _, _, _, _, z⟩ => z
  hv := scOk_vis h
  hl := fun i hi x hx => scOk_loc h i hi x hx
  hg := scOk_gls h
theorem dl_compP (c : Ctx0 X W N vis loc gls) (hot : HotC X) (vis2 loc2 : List Nat) (gls2 : List Str) (own : List (Str × Nat)) (hi : PIH X tg iter (tI X.K fi W)) (ok : BlkOk N X.env.scope scope own) (hsc : scOk N scope vis2 loc2 gls2 = true) (hts : (ts.all fun j => (own.map (·.2)).contains j) = true)
    (hg : ∀ X' : Cx, Sm X X' → Ctx0 X' W0 N vis2 loc2 gls2 → PG X' tg (gD X'.K asg ts)) (ht : ∀ X' : Cx, Sm X X' → Ctx0 X' W0 N vis2 loc2 gls2 → PTs X' ifs (tBo X'.K ft W0)) (he : ∀ X' : Cx, Sm X X' → Ctx0 X' W0 N vis2 loc2 gls2 → PE X' elt (tD X'.K fe W0))
    (hs : ∀ x, foldedSetIterable iter X.env x = pure x := by intro _; rfl) : PE X (.ListComp elt [⟨tg, iter, ifs, 0⟩] scope pos) (tTm X.K (lComp fi asg (own.map (·.2)) ft fe) W) := by
  refine PE.imp (pe_lcP (g := gD X.K asg ts) (tt := tBo X.K ft W0) (te := tD X.K fe W0) hot (by rw [c.hN]; exact c.nd) hi (own := own) (by rw [c.hN]; exact ok) (fun q s H C cl fp => hg (DL.blkP X q s H scope (compEnvC scope cl C X.env) fp) ⟨rfl, rfl, rfl, rfl, rfl⟩ (c.blkP hsc q s H C cl fp)) (fun q s H C cl fp => ht (DL.blkP X q s H scope (compEnvC scope cl C X.env) fp) ⟨rfl, rfl, rfl, rfl, rfl⟩ (c.blkP hsc q s H C cl fp)) (fun q s H C cl fp => he (DL.blkP X q s H scope (compEnvC scope cl C X.env) fp) ⟨rfl, rfl, rfl, rfl, rfl⟩ (c.blkP hsc q s H C cl fp)) hs) fun σ H Q h => ?_
  exact lc_imp (fun j hj => by simpa using List.all_eq_true.mp hts j hj) h
theorem dg_name0 (c : Ctx0 X W N vis loc gls) (i : Nat) {x : Str} (hN : N[i]? = some x := by rfl) (hl : loc.contains i = true := by rfl) : PG X (.Name x pos) (gD X.K (aName i) [i]) := by
  obtain ⟨h1, h2⟩ := c.hl i (by simpa using hl) x hN
  refine PG.imp (pg_name (i := i) (by rw [c.hN]; exact c.nd) (by rw [c.hN]; exact hN) h1 h2) fun v σ H Q ⟨ι, env, x, env', en, dv, ha, h⟩ => ?_
  cases ha
  exact h _ (en.set dv i) ⟨by simp, fun j hj => List.getElem?_set_ne (fun z => hj (by simp [z]))⟩
end

/-! ### _law_kind_of -/
def kNames : List Str := ["Lacks", "NoForm", "NoLine", "NoRow", "NoRows", "NoRules", "NoSeason", "NoTable", "NoText", "NotNow", "NotThere", "NothingLeft", "NoWishes", "TooMany", "Twice"]
abbrev n_kind : List Str := ["e", "some", "words", "k"]
noncomputable def b_kind (a : Addr) (bs : List Bool) : Env → Sto → RS :=
  (sSeq (sNew 1 (lLst (aCons (eIsP 0 a (bs.getD 0 false)) (aCons (eIsP 0 a (bs.getD 1 false)) (aCons (eIsP 0 a (bs.getD 2 false)) (aCons (eIsP 0 a (bs.getD 3 false)) aNil))))))
  (sSeq (sNew 1 (lCat (sRf (eVar 1)) (sTm (lLst (aCons (eIsP 0 a (bs.getD 4 false)) (aCons (eIsP 0 a (bs.getD 5 false)) (aCons (eIsP 0 a (bs.getD 6 false)) (aCons (eIsP 0 a (bs.getD 7 false)) aNil))))))))
  (sSeq (sNew 1 (lCat (sRf (eVar 1)) (sTm (lLst (aCons (eIsP 0 a (bs.getD 8 false)) (aCons (eIsP 0 a (bs.getD 9 false)) (aCons (eIsP 0 a (bs.getD 10 false)) (aCons (eIsP 0 a (bs.getD 11 false)) aNil))))))))
  (sSeq (sNew 1 (lCat (sRf (eVar 1)) (sTm (lLst (aCons (eIsP 0 a (bs.getD 12 false)) (aCons (eIsP 0 a (bs.getD 13 false)) (aCons (eIsP 0 a (bs.getD 14 false)) (aCons (eIsP 0 a (bs.getD 15 false)) aNil))))))))
  (sSeq (sNew 2 (lLst (aCons (eC (.str "Lacks")) (aCons (eC (.str "NoForm")) (aCons (eC (.str "NoLine")) (aCons (eC (.str "NoRow")) (aCons (eC (.str "NoRows")) (aCons (eC (.str "NoRules")) (aCons (eC (.str "NoSeason")) (aCons (eC (.str "NoTable")) (aCons (eC (.str "NoText")) (aCons (eC (.str "NotNow")) aNil))))))))))))
  (sSeq (sNew 2 (lCat (sRf (eVar 2)) (sTm (lLst (aCons (eC (.str "NotThere")) (aCons (eC (.str "NothingLeft")) (aCons (eC (.str "NoWishes")) (aCons (eC (.str "TooMany")) (aCons (eC (.str "Twice")) (aCons (eC (.str "+")) aNil))))))))))
  (sRet (eJoin (eC (.str " ")) (sTm (lComp (iRg1 (eC (.int 16))) (aName 3) [3] (eTru (eBin dIxL (eVar 1) (eVar 3))) (eBin dIxL (eVar 2) (eVar 3))))))))))))
noncomputable def g_kind (a : Addr) (bs : List Bool) : Fn := gOf n_kind (b_kind a bs)
def kWords : List Str := ["Lacks", "NoForm", "NoLine", "NoRow", "NoRows", "NoRules", "NoSeason", "NoTable", "NoText", "NotNow", "NotThere", "NothingLeft", "NoWishes", "TooMany", "Twice", "+"]
/-- the words of those that are so -/
def kindW (bs : List Bool) : List Str := ((List.range 16).filter fun k => bs.getD k false).map fun k => kWords.getD k ""
end DL

namespace DL
open PySem PySem.Spec PyProof.Rows L2 L2H

/-! ### what the kind's def gives -/
def kSome (bs : List Bool) (m : Nat) : O := .lst ((List.range m).map fun j => D.bl (bs.getD j false))
def kTold (m : Nat) : O := .lst ((kWords.take m).map D.str)
def kindJ (bs : List Bool) : List O := [kSome bs 4, kSome bs 8, kSome bs 12, kSome bs 16, kTold 10, kTold 16]
def kindS (bs : List Bool) : Str := Txt.join " " (kindW bs)
theorem kind_val (a : Addr) (bs : List Bool) (S : Sto) : (g_kind a bs [.con (.ref a)] S).W fun d S' => d = .str (kindS bs) ∧ S' = S ++ kindJ bs := by
  have s1 : ∀ n, n ≤ 16 → small n = true := fun n h => decide_eq_true (Nat.le_trans h (by rw [sizeLine_eq]; decide))
  have atn : ∀ (Z : Sto) (o : O), (Z ++ [o])[Z.length]? = some o := fun Z o => List.getElem?_concat_length ..
  have isP : ∀ (x y z : Option D) (b : Bool) (Z : Sto), eIsP 0 a b [some (.con (.ref a)), x, y, z] Z = .ok (.bl b) Z := fun x y z b Z => by
    unfold eIsP
    simp
  unfold g_kind gOf
  rw [R.W_ret]
  show (b_kind a bs [some (.con (.ref a)), none, none, none] S).W _ _
  have z4 := s1 4 (by decide)
  have z6 := s1 6 (by decide)
  have z8 := s1 8 (by decide)
  have z10 := s1 10 (by decide)
  have z12 := s1 12 (by decide)
  have z16 := s1 16 (by decide)
  unfold b_kind
  refine W_seq (fun e S' => e = [some (.con (.ref a)), some (.ref S.length), none, none] ∧ S' = S ++ [kSome bs 4]) ?_ ?_
  · simp only [ev1, ev2, ev3, isP, R.bind, List.set_cons_succ, List.set_cons_zero, List.length_cons, List.length_nil, Nat.reduceAdd, z4, if_true]
    exact ⟨by first | rfl | trivial, by first | rfl | trivial⟩
  rintro _ _ ⟨rfl, rfl⟩
  generalize h1 : S ++ [kSome bs 4] = S1
  have a1 : S1[S.length]? = some (kSome bs 4) := by rw [← h1]; exact atn _ _
  refine W_seq (fun e S' => e = [some (.con (.ref a)), some (.ref S1.length), none, none] ∧ S' = S1 ++ [kSome bs 8]) ?_ ?_
  · simp only [ev1, ev2, ev3, isP, lCat, getM, R.bind, a1, kSome, List.getElem?_cons_zero, List.getElem?_cons_succ, List.set_cons_succ, List.set_cons_zero, List.length_cons, List.length_nil, List.length_map, List.length_range, Nat.reduceAdd, z4, z8, if_true]
    exact ⟨by first | rfl | trivial, by first | rfl | trivial⟩
  rintro _ _ ⟨rfl, rfl⟩
  generalize h2 : S1 ++ [kSome bs 8] = S2
  have a2 : S2[S1.length]? = some (kSome bs 8) := by rw [← h2]; exact atn _ _
  refine W_seq (fun e S' => e = [some (.con (.ref a)), some (.ref S2.length), none, none] ∧ S' = S2 ++ [kSome bs 12]) ?_ ?_
  · simp only [ev1, ev2, ev3, isP, lCat, getM, R.bind, a2, kSome, List.getElem?_cons_zero, List.getElem?_cons_succ, List.set_cons_succ, List.set_cons_zero, List.length_cons, List.length_nil, List.length_map, List.length_range, Nat.reduceAdd, z4, z12, if_true]
    exact ⟨by first | rfl | trivial, by first | rfl | trivial⟩
  rintro _ _ ⟨rfl, rfl⟩
  generalize h3 : S2 ++ [kSome bs 12] = S3
  have a3 : S3[S2.length]? = some (kSome bs 12) := by rw [← h3]; exact atn _ _
  refine W_seq (fun e S' => e = [some (.con (.ref a)), some (.ref S3.length), none, none] ∧ S' = S3 ++ [kSome bs 16]) ?_ ?_
  · simp only [ev1, ev2, ev3, isP, lCat, getM, R.bind, a3, kSome, List.getElem?_cons_zero, List.getElem?_cons_succ, List.set_cons_succ, List.set_cons_zero, List.length_cons, List.length_nil, List.length_map, List.length_range, Nat.reduceAdd, z4, z16, if_true]
    exact ⟨by first | rfl | trivial, by first | rfl | trivial⟩
  rintro _ _ ⟨rfl, rfl⟩
  generalize h4 : S3 ++ [kSome bs 16] = S4
  have a4 : S4[S3.length]? = some (kSome bs 16) := by rw [← h4]; exact atn _ _
  refine W_seq (fun e S' => e = [some (.con (.ref a)), some (.ref S3.length), some (.ref S4.length), none] ∧ S' = S4 ++ [kTold 10]) ?_ ?_
  · simp only [ev1, ev2, ev3, R.bind, List.set_cons_succ, List.set_cons_zero, List.length_cons, List.length_nil, Nat.reduceAdd, z10, if_true]
    exact ⟨by first | rfl | trivial, by first | rfl | trivial⟩
  rintro _ _ ⟨rfl, rfl⟩
  generalize h5 : S4 ++ [kTold 10] = S5
  have a5 : S5[S4.length]? = some (kTold 10) := by rw [← h5]; exact atn _ _
  have l34 : S3.length < S4.length := by rw [← h4]; simp
  have l45 : S4.length < S5.length := by rw [← h5]; simp
  have a4' : S5[S3.length]? = some (kSome bs 16) := by rw [← h5, List.getElem?_append_left l34]; exact a4
  refine W_seq (fun e S' => e = [some (.con (.ref a)), some (.ref S3.length), some (.ref S5.length), none] ∧ S' = S5 ++ [kTold 16]) ?_ ?_
  · simp only [ev1, ev2, ev3, lCat, getM, R.bind, a5, kTold, kWords, List.take_succ_cons, List.take_zero, List.map_cons, List.map_nil, List.getElem?_cons_zero, List.getElem?_cons_succ, List.set_cons_succ, List.set_cons_zero, List.length_cons, List.length_nil, Nat.reduceAdd, z6, z16, if_true]
    exact ⟨by first | rfl | trivial, by first | rfl | trivial⟩
  rintro _ _ ⟨rfl, rfl⟩
  generalize h6 : S5 ++ [kTold 16] = S6
  have a6 : S6[S5.length]? = some (kTold 16) := by rw [← h6]; exact atn _ _
  have a6' : S6[S3.length]? = some (kSome bs 16) := by rw [← h6, List.getElem?_append_left (by omega)]; exact a4'
  have eS : S6 = S ++ kindJ bs := by rw [← h6, ← h5, ← h4, ← h3, ← h2, ← h1]; simp [kindJ]
  have eR : rngL 0 16 = rgK 16 := rngL_nat 16
  have cp := comp_pure (asg := aName 3) (ft := eTru (eBin dIxL (eVar 1) (eVar 3))) (fe := eBin dIxL (eVar 2) (eVar 3)) (g := Tru) (env := [some (.con (.ref a)), some (.ref S3.length), some (.ref S5.length), none]) (S := S6) trivial (fun k : Nat => D.int (k : Nat)) (fun k => bs.getD k false) (fun k => .str (kWords.getD k "")) (List.range 16) fun k hk => by
    have hk := List.mem_range.mp hk
    refine ⟨_, rfl, ?_, fun _ => ?_⟩
    · have : dIxL (.ref S3.length) (.int (k : Nat)) S6 = .ok (.bl (bs.getD k false)) S6 := by
        simp only [dIxL, a6', kSome]
        rw [atI_nat' (by simpa using hk)]
        simp [R.ofO]
      simp only [ev1, ev5, R.bind, List.getElem?_cons_zero, List.getElem?_cons_succ, List.set_cons_succ, List.set_cons_zero, this]
    · have : dIxL (.ref S5.length) (.int (k : Nat)) S6 = .ok (.str (kWords.getD k "")) S6 := by
        have hl : k < ((kWords.take 16).map D.str).length := by
          show k < 16
          exact hk
        simp only [dIxL, a6, kTold]
        rw [atI_nat' hl]
        have e16 : kWords.take 16 = kWords := rfl
        simp only [R.ofO, List.getElem_map, e16]
        have hl2 : k < kWords.length := hk
        rw [List.getD_eq_getElem?_getD, List.getElem?_eq_getElem hl2]
        rfl
      simp only [ev1, R.bind, List.getElem?_cons_zero, List.getElem?_cons_succ, List.set_cons_succ, List.set_cons_zero, this]
  have ec : fComp (aName 3) (eTru (eBin dIxL (eVar 1) (eVar 3))) (eBin dIxL (eVar 2) (eVar 3)) Tru (wipeE [some (.con (.ref a)), some (.ref S3.length), some (.ref S5.length), none] [3]) (rgK 16) S6 = .ok ((kindW bs).map D.str) S6 := by
    have : ((List.range 16).filter fun k => bs.getD k false).map (fun k => D.str (kWords.getD k "")) = (kindW bs).map D.str := by
      unfold kindW
      rw [List.map_map]
      rfl
    rw [← this]
    exact cp
  have r16 : rOk 16 = true := by decide
  have l16 : small (rgK 16).length = true := by rw [rgK_len]; exact z16
  simp only [ev1, ev2, ev3, R.bind, r16, if_true, eR, l16, ec, tyD, tyN, mJoin, getA, getM]
  have kl : (kindW bs).length ≤ 16 := by
    unfold kindW
    rw [List.length_map]
    exact Nat.le_trans (List.length_filter_le _ _) (by rw [List.length_range]; exact Nat.le_refl _)
  have kw : ∀ k, (kWords.getD k "").length ≤ 11 := by
    intro k
    by_cases hk : k < 16
    · have : ∀ k, k < 16 → (kWords.getD k "").length ≤ 11 := by decide
      exact this k hk
    · rw [List.getD_eq_getElem?_getD, List.getElem?_eq_none (by show 16 ≤ k; omega)]
      decide
  have ks : ∀ l : List Nat, ((l.map fun k => kWords.getD k "").map (·.length)).sum ≤ 11 * l.length := by
    intro l
    induction l with
    | nil => simp
    | cons k r ih =>
      simp only [List.map_cons, List.sum_cons, List.length_cons]
      have := kw k
      omega
  have sm : ((kindW bs).map (·.length)).sum + (kindW bs).length * (" " : Str).length ≤ 16777216 := by
    have h1 := ks ((List.range 16).filter fun k => bs.getD k false)
    have h2 : ((List.range 16).filter fun k => bs.getD k false).length = (kindW bs).length := by unfold kindW; rw [List.length_map]
    have h3 : (" " : Str).length = 1 := by decide
    unfold kindW at *
    rw [h3]
    omega
  rw [strsOf_map]
  simp only [beq_self_eq_true, if_true, R.ofO, sm, if_pos]
  exact ⟨by first | rfl | trivial, eS⟩
end DL

namespace DL
open PySem PySem.Spec PyProof.Rows L2 L2H

/-! ### the call of the kind's def in a clause's suite -/
/-- isinstance of the 16 classes, of an exception of the class at C -/
structure KitsC (K : PySem.W.Frag) (mg : Str → Option Value) (C : Addr) (bs : List Bool) : Prop where
  exc : ExcC K C
  own : ∀ (i : Nat) (y : Str), kNames[i]? = some y → ∃ D0 : Addr, mg y = some (.ref D0) ∧ PySem.W.kitOne K (.ref C) (.ref D0) = some (bs.getD i false)
  val : PySem.W.kitOne K (.ref C) (.type "ValueError") = some (bs.getD 15 false)
def spKind (K : PySem.W.Frag) (p : Addr × Obj) (bs : List Bool) (vs : List V) (H : Hp) (Q : VK) : Prop :=
  ∃ ι S, vs = [.ref p.1] ∧ Rep K H ι S ∧ ∀ ι' H', Ext H ι H' ι' → Rep K H' ι' (S ++ kindJ bs) → Q (.str (kindS bs)) H'
def KRun (M : Mod) (f : Addr) (fd : FuncData) : Prop :=
  ∀ (p : Addr × Obj) (C : Addr) (d : Option Addr) (bs : List Bool), KitsC M.K M.mg C bs → L2N.Zn (.ref C) d p.2 → (∃ vs, p.2.data = .fields vs) → ∀ (A : Around) (outer : List PySem.Env) (s : Shared) (H : Hp) (args : Args) (us : List Value) (vs : List V) (Q : VK) (E : XK),
    RoomH 1 A → Hot1 A p → PinOk outer H s p → (∀ dx, d = some dx → ∃ o, s.heap.get? dx = some o) → Env0 M.P M.w M.K M.mg M.base A outer s H → BindsTo s fd args ((["e"] : List Str).zip us) → Vals vs us → spKind M.K p bs vs H Q →
    codeAny (model M.P M.w) A (.call (.ref f) args) (CR (L2N.CX M.P M.w) outer M.P M.w H s Q E) s
structure KindT (M : Mod) : Prop where
  ex : ∃ (f : Addr) (fd : FuncData), KRun M f fd ∧ M.mg "_law_kind_of" = some (.ref f) ∧ PySem.W.keepIn M.K (.ref f) = true ∧ Binds M.K fd ["e"] []
theorem kind_mk {M : Mod} {st : Stmt} {vis loc : List Nat} {gls : List Str} (T : DefT M "_law_kind_of" st ["e"]) (S : FnScope n_kind ["e"] (defScope st)) (hsc : scOk n_kind (defScope st) vis loc gls = true)
    (hb : ∀ (X : Cx) (W : WX) (p : Addr × Obj) (C : Addr) (d : Option Addr) (bs : List Bool), Md M X → Ctx0 X W n_kind vis loc gls → HotC X → X.env.scope = defScope st → KitsC X.K X.mg C bs → ExcP X p C d → PSs X (defBody st) (tS X.K (b_kind p.1 bs) W)) : KindT M := by
  obtain ⟨f, fd, F, hm, hbi⟩ := T.ex
  refine ⟨f, fd, ?_, hm, F.kp, hbi⟩
  obtain ⟨oc, od, kV, doc, pm, an, cdv, ct, osl, rfl, lk, hcd⟩ := F.ex
  rintro p C d bs KC zn hfl A outer s H args us vs Q E hr hot hpin hdd e0 hbind r ⟨ι, St0, rfl, rp, hq⟩
  have KX : M.K.In s.heap := e0.mod.kin.keeps fun b o e => (e0.bs b o e).1
  have lim : s.heap.NoLimit := e0.mod.nolimit.keeps fun b o e => (e0.bs b o e).1
  refine codeAny_call_function hr.depth (KX _ _ lk) rfl S.co S.gen rfl (PySem.W.codeRec_of KX hcd) (hbind _ _ _ _ ?_)
  refine wpAny_newFunctionEnv_cells S.kind (fun y hy => ?_) fun env he s1 x => ?_
  · rcases S.par y.1 (List.of_mem_zip (show (y.1, y.2) ∈ _ from hy)).1 with q | q
    · exact .inl q
    · exact .inr ⟨q, PySem.W.cellsFrom_some _ _ _ (.inl q)⟩
  subst he
  refine ⟨lim.keeps x.toInCall.keep, codeAny_func ?_⟩
  have I : Inv (cxH (L2N.CX M.P M.w) M.P M.w M.K M.mg M.base n_kind "_law_kind_of" (defScope st) f cdv A outer s H E p) [] (L2.start n_kind [.ref p.1]) H s1 := inv_startH S hpin e0 rfl r x
  have vis' : ∀ i ∈ vis, ∀ y, n_kind[i]? = some y → Vis (defScope st) y := fun i hi y hy => by
    unfold scOk at hsc
    simp only [Bool.and_eq_true, List.all_eq_true] at hsc
    have q := hsc.1.1 i hi
    rw [hy] at q
    unfold Vis
    simp only at q
    cases w : (defScope st).names.lookup y with
    | none => rw [w] at q; simp at q
    | some kd => rw [w] at q; cases kd <;> simp at q ⊢
  have loc' : ∀ i ∈ loc, ∀ y, n_kind[i]? = some y → L2.Loc (defScope st) y := fun i hi y hy => by
    unfold scOk at hsc
    simp only [Bool.and_eq_true, List.all_eq_true] at hsc
    have q := hsc.1.2 i hi
    rw [hy] at q
    unfold L2.Loc
    simp only at q
    cases w : (defScope st).names.lookup y with
    | none => rw [w] at q; simp at q
    | some kd => rw [w] at q; cases kd <;> simp at q ⊢
  have gls' : ∀ y ∈ gls, (defScope st).names.lookup y = some .globalImplicit := fun y hy => by
    unfold scOk at hsc
    simp only [Bool.and_eq_true, List.all_eq_true] at hsc
    have q := hsc.2 y hy
    cases w : (defScope st).names.lookup y with
    | none => rw [w] at q; simp at q
    | some kd => rw [w] at q; cases kd <;> simp at q ⊢
  have B := hb (cxH (L2N.CX M.P M.w) M.P M.w M.K M.mg M.base n_kind "_law_kind_of" (defScope st) f cdv A outer s H E p) (WXof E) p C d bs ⟨rfl, rfl, rfl, rfl, rfl⟩
    ⟨rfl, S.nd, L2N.takes_of rfl rfl rfl rfl, vis', fun i hi y hy => ⟨loc' i hi y hy, .inl rfl⟩, gls'⟩ ⟨p, hot, List.mem_singleton.mpr rfl⟩ rfl KC
    ⟨List.mem_singleton.mpr rfl, zn, hfl, fun dx e => ⟨(hdd dx e).choose, (hdd dx e).choose_spec, fun z => nomatch z⟩⟩
  have fin : ∀ {σ' : L2.St} {H' : Hp} {s' : Shared} {v : V} {u : Value}, Inv (cxH (L2N.CX M.P M.w) M.P M.w M.K M.mg M.base n_kind "_law_kind_of" (defScope st) f cdv A outer s H E p) [] σ' H' s' → RelV v u → Q v H' → CE outer M.P M.w H s Q u s' :=
    fun {σ' H' s' v u} J rv q => ⟨v, H', J.os, J.bare, J.base, J.hok, rv, q⟩
  refine wpAny_mono (B.run [] s1 (L2.start n_kind [.ref p.1]) H { nx := fun _ H' => Q .non H', rt := Q } I ⟨ι, startE n_kind [.con (.ref p.1)], St0, rp, startE_ok (.cons (.con _) .nil), ?_⟩) (fun fl s' hs => ?_) fun e s' hs => hs
  · have kv := kind_val p.1 bs St0
    unfold g_kind gOf at kv
    rw [R.W_ret] at kv
    cases q : b_kind p.1 bs (startE n_kind [.con (.ref p.1)]) St0 with
    | rt x S1 =>
      rw [q] at kv
      obtain ⟨rfl, rfl⟩ := kv
      intro ι1 H1 v e1 r1 d1
      cases d1
      exact hq ι1 H1 e1 r1
    | nx e S1 =>
      rw [q] at kv
      exact absurd kv.1 (by simp)
    | bk _ _ => rw [q] at kv; exact kv.elim
    | ct _ _ => rw [q] at kv; exact kv.elim
    | err _ _ _ => rw [q] at kv; exact kv.elim
    | bad => rw [q] at kv; exact kv.elim
  · cases fl with
    | ret u =>
      obtain ⟨v, σ', H', J, rv, q⟩ := hs
      exact fin J rv q
    | next =>
      obtain ⟨σ', H', J, q⟩ := hs
      exact fin (v := V.non) (u := Value.none) J rfl q
    | brk => exact hs.choose_spec.choose_spec.2.elim
    | cont => exact hs.choose_spec.choose_spec.2.elim
theorem KitsC.at {K : PySem.W.Frag} {mg : Str → Option Value} {C : Addr} {bs : List Bool} (h : KitsC K mg C bs) (i : Nat) {y : Str} (e : kNames[i]? = some y := by rfl) : ∃ D0 : Addr, mg y = some (.ref D0) ∧ PySem.W.kitOne K (.ref C) (.ref D0) = some (bs.getD i false) := h.own i y e
theorem de_isK {X : Cx} {W : WX} {N : List Str} {vis loc : List Nat} {gls : List Str} {p : Addr × Obj} {C : Addr} {d : Option Addr} {pos pp p2 q1 : Pos} {j : Nat} {n y : Str} {b : Bool} (c : Ctx0 X W N vis loc gls) (T : ExcC X.K C) (hp : ExcP X p C d) (hm : X.mg "isinstance" = none) (hF : ∃ D0 : Addr, X.mg y = some (.ref D0) ∧ PySem.W.kitOne X.K (.ref C) (.ref D0) = some b) (hN : N[j]? = some n := by rfl) (hv : vis.contains j = true := by rfl) (hg : gls.contains ("isinstance" : Str) = true := by decide +kernel) (hgy : gls.contains y = true := by decide +kernel)
    (hd : (n == ("__debug__" : Str)) = false := by decide +kernel) (hcd : (n == ("__classdict__" : Str)) = false := by decide +kernel) (hdy : (y == ("__debug__" : Str)) = false := by decide +kernel)
    (hs : starEach [.Name n q1, .Name y p2] X.env = (false, eval (.Name n q1) X.env) :: starEach [.Name y p2] X.env := by rfl) (hs2 : starEach [.Name y p2] X.env = [(false, eval (.Name y p2) X.env)] := by rfl) (hpl : (backTo pos (starEach [.Name y p2] X.env)).any (·.1) = false := by rfl) :
    PE X (.Call (.Name "isinstance" pp) [.Name n q1, .Name y p2] [] pos) (tD X.K (eIsP j p.1 b) W) := by
  obtain ⟨D0, h1, h2⟩ := hF
  exact de_isP c T hp hm h1 h2 hN hv hg hgy hd hcd hdy hs hs2 hpl
end DL

namespace DL
open PySem PySem.Spec PyProof.Rows L2 L2H

/-! ### the suites of except clauses: kind = .. -/
abbrev FxE := Exn → Option (Str × List O)
theorem xd_out {K : PySem.W.Frag} {H : Hp} {ι : List Addr} {S : Sto} {a : Addr} {gs : List (Str × V)} (r : Rep K H ι S) (h : H a = some (.xd gs)) : a ∉ ι := fun hm => by
  obtain ⟨n, hn, e⟩ := List.getElem_of_mem hm
  have hs : n < S.length := by rw [← r.len]; exact hn
  obtain ⟨u, h1, h2⟩ := r.ob n S[n] a (List.getElem?_eq_getElem hs) (by rw [List.getElem?_eq_getElem hn, e])
  rw [h] at h1
  generalize S[n] = o at h2
  cases h1
  cases h2
theorem XR.mono {K : PySem.W.Frag} {H H' : Hp} {ι ι' : List Addr} {S : Sto} {x : Exn} {cls : Value} {dd : Option Addr} (h : XR K H ι x cls dd) (r : Rep K H ι S) (e : Ext H ι H' ι') : XR K H' ι' x cls dd := by
  obtain ⟨h1, h2⟩ := h
  refine ⟨h1, ?_⟩
  cases q : x.fs with
  | none => rw [q] at h2; exact h2
  | some fs =>
    rw [q] at h2
    obtain ⟨a, gs, h3, h4, h5⟩ := h2
    exact ⟨a, gs, h3, e.fr a _ (xd_out r h4) h4, h5.mono e.toGr⟩
def tHE (K : PySem.W.Frag) (j : Nat) (a : Addr) (cls : Value) (d : Option Addr) (fx : FxE) : TE := fun σ H Q => ∃ ι S x z J, Rep K H ι S ∧ XR K H ι x cls d ∧ σ[j]? = some (some (.ref a)) ∧ fx x = some (z, J) ∧ ∀ ι' H', Ext H ι H' ι' → Rep K H' ι' (S ++ J) → Q (.str z) H'
def fxStr (s : Str) : FxE := fun _ => some (s, [])
def fxKind (kl : List (Str × List Bool)) : FxE := fun x => (kl.lookup x.C).map fun bs => (kindS bs, kindJ bs)
def fxAdd (f g : FxE) : FxE := fun x => match f x, g x with
  | some (z, J), some (y, L) => if z.length + y.length ≤ sizeLine then some (z ++ y, J ++ L) else none
  | _, _ => none
/-- str(e.f), e of the class y -/
def fxFld (y f : Str) : FxE := fun x => if x.C = y then (match x.fs with
  | some fs => (match fs.lookup f with
    | some (.int i) => if i.natAbs.log2 < 1920 then some (toString i, []) else none
    | _ => none)
  | none => none) else none
section
variable {M : Mod} {X : Cx} {k j : Nat} {n : Str} {a : Addr} {oe : Obj} {cls : Value} {d : Option Addr} {pn : List (Addr × Obj)} {pos q1 q2 : Pos} {e1 e2 : Expr} {f g : FxE}
theorem he_str {s : Str} {i : Nat} : PE (X.suite a ((a, oe) :: pn)) (.Constant (.str s) i pos) (tHE X.K j a cls d (fxStr s)) := by
  refine PE.imp pe_str fun σ H Q ⟨ι, S, x, z, J, r, xr, ja, fx, q⟩ => ?_
  cases fx
  exact q ι H (Ext.refl _ _) (by simpa using r)
theorem he_add (h1 : PE (X.suite a ((a, oe) :: pn)) e1 (tHE X.K j a cls d f)) (h2 : PE (X.suite a ((a, oe) :: pn)) e2 (tHE X.K j a cls d g)) : PE (X.suite a ((a, oe) :: pn)) (.BinOp e1 .Add e2 pos) (tHE X.K j a cls d (fxAdd f g)) := by
  refine PE.imp (pe_op op_add_str h1 h2) fun σ H Q ⟨ι, S, x, z, J, r, xr, ja, fx, q⟩ => ?_
  unfold fxAdd at fx
  split at fx
  · rename_i z1 J1 z2 J2 f1 f2
    split at fx
    · rename_i hz
      cases fx
      refine ⟨ι, S, x, z1, J1, r, xr, ja, f1, fun ι1 H1 x1 r1 => ⟨ι1, S ++ J1, x, z2, J2, r1, xr.mono r x1, ja, f2, fun ι2 H2 x2 r2 => ⟨z1, z2, rfl, rfl, hz, ?_⟩⟩⟩
      exact q ι2 H2 (x1.trans x2) (by rw [← List.append_assoc]; exact r2)
    · cases fx
  · cases fx
theorem he_kind {kl : List (Str × List Bool)} (md : Md M X) (T : KindT M) (hk : ∀ y bs, kl.lookup y = some bs → ∃ C : Addr, PySem.W.nsIn X.K mainGlobals y = some (some (.ref C)) ∧ KitsC X.K X.mg C bs) (hr : RoomH 1 X.A) (hz : L2N.Zn cls d oe) (hf : ∃ vs, oe.data = .fields vs) (hg : Gl X "_law_kind_of") (hN : X.N[j]? = some n) (hv : Vis X.env.scope n)
    (hd : (n == ("__debug__" : Str)) = false) (hcd : (n == ("__classdict__" : Str)) = false) (hs : starEach [.Name n q2] X.env = [(false, eval (.Name n q2) X.env)]) :
    PE (X.suite a ((a, oe) :: pn)) (.Call (.Name "_law_kind_of" q1) [.Name n q2] [] pos) (tHE X.K j a cls d (fxKind kl)) := by
  obtain ⟨fk, fd, KR, hm, kp, hb⟩ := T.ex
  obtain ⟨P, w, K, mg, base⟩ := M
  obtain ⟨e1, e2, e3, e4, e5⟩ := md
  simp only at e1 e2 e3 e4 e5
  subst e1 e2 e3 e4 e5
  refine ⟨fun pins s σ H Q I ⟨ι, S, x, z, J, r, xr, ja, fx, q⟩ => ?_⟩
  unfold fxKind at fx
  cases hl : kl.lookup x.C with
  | none => rw [hl] at fx; cases fx
  | some bs =>
    rw [hl] at fx
    cases fx
    obtain ⟨C, hC, KC⟩ := hk _ _ hl
    obtain ⟨⟨C0, hC0, rfl⟩, xr2⟩ := id xr
    rw [hC] at hC0
    cases hC0
    refine wpAny_Call_Name_kw (ld_glob I hg hm ?_ (by decide +kernel))
    refine PySem.W.callWith_K (h₀ := X.base) I.ok.mod.kin kp (thn ((pa_cons (pe_var (X := X.suite a ((a, oe) :: pn)) (i := j) (pos := q2) hN hv hd hcd) pa_nil hs).run pos pins s σ H (fun vs H1 => vs = [V.ref a] ∧ H1 = H) I ⟨_, ja, rfl, rfl⟩) ?_) hs rfl
    rintro us s1 ⟨vs, H1, I1, rv, rfl, rfl⟩
    refine ⟨I1.kIn, ?_⟩
    have ul : us.length = 1 := rv.length.symm
    have bi := hb s1 us I1.kIn (by rw [List.append_nil]; exact ul)
    rw [List.append_nil] at bi
    have P1 := I1.pin (a, oe) (List.mem_append_left _ List.mem_cons_self)
    have hpin : PinOk (X.suite a ((a, oe) :: pn)).stack H1 s1 (a, oe) := ⟨P1.1, P1.2.1, fun hm => (List.mem_cons.mp (I1.stkSub a hm)).elim P1.2.2.1 P1.2.2.2.1, P1.2.2.2.2⟩
    have hdd : ∀ dx, d = some dx → ∃ o, s1.heap.get? dx = some o := fun dx hdx => by
      cases hfs : x.fs with
      | none =>
        rw [hfs] at xr2
        rw [xr2] at hdx
        cases hdx
      | some fs =>
        rw [hfs] at xr2
        obtain ⟨a', gs, h3, h4, _⟩ := xr2
        rw [hdx] at h3
        cases h3
        exact objOk_get (I1.hok dx _ h4)
    obtain ⟨vs0, hv0⟩ := hf
    refine wpAny_call (codeAny_mono (KR (a, oe) C d bs KC hz ⟨vs0, hv0⟩ (X.suite a ((a, oe) :: pn)).A (X.suite a ((a, oe) :: pn)).stack s1 H1 ⟨us, []⟩ us [.ref a] Q (fun _ _ _ => False) ⟨hr.dp, hr.un⟩ ⟨rfl, vs0, hv0, hz.2.2 vs0 hv0⟩ hpin hdd I1.env0 bi rv ⟨ι, S, rfl, r, q⟩) ?_)
    intro rr s2 hq
    cases rr with
    | error e =>
      obtain ⟨_, _, _, _, _, _, _, _, _, _, _, _, z⟩ := hq
      exact z.elim
    | ok fl =>
      cases fl with
      | ret u => exact I1.after hq
      | next => exact False.elim hq
      | brk => exact False.elim hq
      | cont => exact False.elim hq
/-- str(e.f), e of the class y -/
theorem he_fld {y f : Str} {C : Addr} {q3 : Pos} (hy : PySem.W.nsIn X.K mainGlobals y = some (some (.ref C))) (T : XfC X.K C) (hno : PySem.W.findIn X.K (.ref C) f = some none) (hz : L2N.Zn cls d oe) (hf : ∃ vs, oe.data = .fields vs) (hg : Gl X "str") (hm : X.mg "str" = none) (hN : X.N[j]? = some n) (hv : Vis X.env.scope n)
    (hd : (n == ("__debug__" : Str)) = false) (hcd : (n == ("__classdict__" : Str)) = false) (hs : starEach [.Attribute (.Name n q2) f q3] X.env = [(false, eval (.Attribute (.Name n q2) f q3) X.env)]) (hb : attributeBase (.Name n q2) f X.env (eval (.Name n q2) X.env) = eval (.Name n q2) X.env) :
    PE (X.suite a ((a, oe) :: pn)) (.Call (.Name "str" q1) [.Attribute (.Name n q2) f q3] [] pos) (tHE X.K j a cls d (fxFld y f)) := by
  refine ⟨fun pins s σ H Q I ⟨ι, S, x, z, J, r, xr, ja, fx, q⟩ => ?_⟩
  unfold fxFld at fx
  split at fx
  · rename_i hC
    obtain ⟨⟨C0, hC0, ec⟩, xr2⟩ := id xr
    rw [hC, hy] at hC0
    cases hC0
    split at fx
    · rename_i fs hfs
      split at fx
      · rename_i i hi
        split at fx
        · rename_i hlt
          cases fx
          rw [hfs] at xr2
          obtain ⟨dd, gs, hd1, hd2, hd3⟩ := xr2
          obtain ⟨v, hv1, hv2⟩ := hd3.lookup hi
          cases hv2
          have pe := pe_callTy (call_str_int (X := X.suite a ((a, oe) :: pn))) hg hm (by decide +kernel) (pa_cons (pe_xf T hno hz.zc hf (pe_var (X := X.suite a ((a, oe) :: pn)) (i := j) (pos := q2) hN hv hd hcd) hb) pa_nil hs) (by decide +kernel) (by decide +kernel) hs rfl (p := q1) (pos := pos)
          exact pe.run pins s σ H Q I ⟨_, ja, rfl, ec, dd, gs, _, hd1, hd2, hv1, i, rfl, hlt, q ι H (Ext.refl _ _) (by simpa using r)⟩
        · cases fx
      · cases fx
    · cases fx
  · cases fx
/-- kind = .. -/
def sKd (i : Nat) (fx : FxE) : Exn → Env → Sto → RS := fun x env S => match fx x with
  | some (z, J) => .nx (env.set i (some (.str z))) (S ++ J)
  | none => .bad
def tSu (K : PySem.W.Frag) (j : Nat) (f : Exn → Env → Sto → RS) (a : Addr) (cls : Value) (d : Option Addr) : TS := fun D σ H => ∃ ι env S x, Rep K H ι S ∧ EnvR K H ι env σ ∧ σ[j]? = some (some (.ref a)) ∧ XR K H ι x cls d ∧ endsS K (fun _ _ _ _ => False) D H ι (f x env S)
theorem su_kd {W : WX} {N : List Str} {vis loc : List Nat} {gls : List Str} {i : Nat} {m : Str} {e : Expr} (c : Ctx X W k N vis loc gls) (he : PE (X.suite a ((a, oe) :: pn)) e (tHE X.K j a cls d f)) (hN : N[i]? = some m) (hl : loc.contains i = true) (hs : swapsWith e (some (.Name m q1)) pos.line X.env = pure false) :
    PSs (X.suite a ((a, oe) :: pn)) [.Assign [.Name m q1] e pos] (tSu X.K j (sKd i f) a cls d) := by
  obtain ⟨h1, h2⟩ := c.hl i (by simpa using hl) m hN
  refine pss_one (PS.imp (ps_set (X := X.suite a ((a, oe) :: pn)) (i := i) (by show X.N.Nodup; rw [c.hN]; exact c.nd) (by show X.N[i]? = some m; rw [c.hN]; exact hN) h1 he hs h2) fun D σ H ⟨ι, env, S, x, r, en, ja, xr, h⟩ => ?_)
  unfold sKd at h
  split at h
  · rename_i z J hfx
    refine ⟨ι, S, x, z, J, r, xr, ja, hfx, fun ι1 H1 x1 r1 => ?_⟩
    exact h ι1 H1 _ x1 r1 ((en.mono x1.toGr).set (.str z) i)
  · exact h.elim

/-! ### try -/
def unR (j : Nat) : RS → RS
  | .nx e S => .nx (e.set j none) S
  | .bk e S => .bk (e.set j none) S
  | .ct e S => .ct (e.set j none) S
  | .rt d S => .rt d S
  | _ => .bad
abbrev HdL := List (List (Str × Bool) × Nat × (Exn → Env → Sto → RS))
def sHds : HdL → Exn → Env → Sto → RS
  | [], x, e, S => .err x e S
  | (l, j, f) :: r, x, e, S => match l.lookup x.C with
    | some true => if j < e.length then unR j (f x (e.set j none) S) else .bad
    | some false => sHds r x e S
    | none => .bad
def sTry (fb : Env → Sto → RS) (l : HdL) : Env → Sto → RS := fun env S => match fb env S with
  | .err x e S1 => sHds l x e S1
  | r => r
inductive HdD (X : Cx) : List ExceptHandler → HdL → Prop
  | nil : HdD X [] []
  | cons {x n : Str} {Dc : Addr} {j : Nat} {l : List (Str × Bool)} {f : Exn → Env → Sto → RS} {b₀ : Stmt} {suite : List Stmt} {np pos' : Pos} {hds : List ExceptHandler} {ls : HdL} (hN : X.N.Nodup) (hi : X.N[j]? = some n) (hln : X.env.kindOf n = some .local) (hg : Gl X x) (hdb : (x == ("__debug__" : Str)) = false) (hm : X.mg x = some (.ref Dc))
      (hl : ∀ y b, l.lookup y = some b → ∃ C : Addr, PySem.W.nsIn X.K mainGlobals y = some (some (.ref C)) ∧ PySem.W.exmOne X.K (.ref C) (.ref Dc) = some b)
      (hsu : ∀ (a : Addr) (oe : Obj) (cls : Value) (d : Option Addr) (pn : List (Addr × Obj)), L2N.Zn cls d oe → (∃ vs, oe.data = .fields vs) → PSs (X.suite a ((a, oe) :: pn)) (b₀ :: suite) (tSu X.K j f a cls d)) (r : HdD X hds ls) :
      HdD X (.ExceptHandler (some (.Name x np)) (some n) (b₀ :: suite) pos' :: hds) ((l, j, f) :: ls)
theorem HdD.all {hds : List ExceptHandler} {ls : HdL} (h : HdD X hds ls) : ∃ L, HdA X hds L ∧ (hds = [] ↔ L = []) ∧ ∀ (W : WX) (D : Ends) (x : Exn) (e : Env) (S : Sto) (H : Hp) (ι : List Addr) (cls : Value) (d : Option Addr) (σ : L2.St), Rep X.K H ι S → EnvR X.K H ι e σ → XR X.K H ι x cls d → endsS X.K W D H ι (sHds ls x e S) → wAll X.K W D L cls d σ H := by
  induction h with
  | nil => exact ⟨[], .nil, by simp, fun W D x e S H ι cls d σ r en xr q => q ι H cls d σ (Ext.refl _ _) r en xr⟩
  | @cons x0 n0 Dc j0 l f b₀ suite np pos' hds ls hN hi hln hg hdb hm hl hsu r ih =>
    obtain ⟨L, hA, _, hw⟩ := ih
    refine ⟨(.ref Dc, j0, tSu X.K j0 f) :: L, .cons hN hi hln ⟨hg, hdb, .inl hm⟩ hsu hA, by simp, fun W D x e S H ι cls d σ rp en xr q => ?_⟩
    simp only [sHds] at q
    obtain ⟨⟨C0, hC0, ec⟩, _⟩ := id xr
    cases hb : l.lookup x.C with
    | none => rw [hb] at q; exact q.elim
    | some b =>
      rw [hb] at q
      obtain ⟨C, hC, hex⟩ := hl _ _ hb
      rw [hC] at hC0
      cases hC0
      refine ⟨b, by rw [ec]; exact hex, fun hbt a0 ha0 => ?_, fun hbf => ?_⟩
      · subst hbt
        simp only at q
        split at q
        case isFalse => exact q.elim
        rename_i hj
        rw [en.len] at hj
        refine ⟨ι, e.set j0 none, S, x, rp, en.unset j0 _, List.getElem?_set_self hj, xr, ?_⟩
        cases w : f x (e.set j0 none) S with
        | nx e2 S2 => rw [w] at q; exact fun ι2 H2 σ2 x2 r2 en2 => q ι2 H2 _ x2 r2 (en2.unset j0 none)
        | bk e2 S2 => rw [w] at q; exact fun ι2 H2 σ2 x2 r2 en2 => q ι2 H2 _ x2 r2 (en2.unset j0 none)
        | ct e2 S2 => rw [w] at q; exact fun ι2 H2 σ2 x2 r2 en2 => q ι2 H2 _ x2 r2 (en2.unset j0 none)
        | rt d2 S2 => rw [w] at q; exact q
        | err x2 e2 S2 => rw [w] at q; exact q.elim
        | bad => rw [w] at q; exact q.elim
      · subst hbf
        exact hw W D x e S H ι cls d σ rp en xr q
theorem ds_try {W : WX} {N : List Str} {vis loc : List Nat} {gls : List Str} {body : List Stmt} {h₀ : ExceptHandler} {hds : List ExceptHandler} {ls : HdL} {fb : Env → Sto → RS} (c : Ctx X W k N vis loc gls) (md : Md M X) (stk : X.stack = X.env :: X.outer ∧ X.env.frame = some X.env.locals)
    (hb : ∀ (X' : Cx) (W' : WX), Md M X' → Ctx X' W' k N vis loc gls → X'.env.scope = X.env.scope → PSs X' body (tS X'.K fb W')) (hh : HdD X (h₀ :: hds) ls) : PS X (.Try body (h₀ :: hds) [] [] pos) (tS X.K (sTry fb ls) W) := by
  obtain ⟨L, hA, _, hw⟩ := hh.all
  refine PS.imp (ps_try_all (tb := fun W' => tS X.K fb W') stk.1 stk.2 c.tk (fun W' pn xe tk hp => hb (X.tr pn xe) W' ⟨md.prog, md.w, md.K, md.mg, md.base⟩ ⟨⟨c.hN, c.nd, tk, c.hv, c.hl, c.hg⟩, c.calm, hp, c.hr⟩ rfl) hA) fun D σ H ⟨ι, env, S, r, en, h⟩ => ⟨ι, env, S, r, en, ?_⟩
  unfold sTry at h
  cases q : fb env S with
  | nx e S1 => rw [q] at h; exact h
  | rt d S1 => rw [q] at h; exact h
  | bk e S1 => rw [q] at h; exact h
  | ct e S1 => rw [q] at h; exact h
  | bad => rw [q] at h; exact h
  | err x e S1 =>
    rw [q] at h
    exact fun ι1 H1 cls dd σ1 x1 r1 en1 xr => hw W D x e S1 H1 ι1 cls dd σ1 r1 en1 xr (endsS.after x1 h)
end
end DL

namespace DL
open PySem PySem.Spec PyProof.Rows L2 L2H

/-! ### what the printed texts ask of exceptions -/
structure HdC (M : Mod) (x : Str) (l : List (Str × Bool)) : Prop where
  ex : ∃ Dc : Addr, M.mg x = some (.ref Dc) ∧ ∀ y b, l.lookup y = some b → ∃ C : Addr, PySem.W.nsIn M.K mainGlobals y = some (some (.ref C)) ∧ PySem.W.exmOne M.K (.ref C) (.ref Dc) = some b
structure KdL (M : Mod) (kl : List (Str × List Bool)) : Prop where
  ex : ∀ y bs, kl.lookup y = some bs → ∃ C : Addr, PySem.W.nsIn M.K mainGlobals y = some (some (.ref C)) ∧ KitsC M.K M.mg C bs
structure FldC (M : Mod) (y f : Str) : Prop where
  ex : ∃ C : Addr, PySem.W.nsIn M.K mainGlobals y = some (some (.ref C)) ∧ XfC M.K C ∧ PySem.W.findIn M.K (.ref C) f = some none
section
variable {M : Mod} {X : Cx} {W : WX} {k j : Nat} {N : List Str} {vis loc : List Nat} {gls : List Str} {n : Str} {a : Addr} {oe : Obj} {cls : Value} {d : Option Addr} {pn : List (Addr × Obj)} {pos q1 q2 : Pos}
theorem hd_cons (c : Ctx X W k N vis loc gls) (md : Md M X) {x : Str} {l : List (Str × Bool)} {f : Exn → Env → Sto → RS} {b₀ : Stmt} {suite : List Stmt} {np pos' : Pos} {hds : List ExceptHandler} {ls : HdL} (T : HdC M x l) (hN : N[j]? = some n) (hln : X.env.scope.names.lookup n = some .local)
    (hsu : ∀ (a : Addr) (oe : Obj) (cls : Value) (d : Option Addr) (pn : List (Addr × Obj)), L2N.Zn cls d oe → (∃ vs, oe.data = .fields vs) → PSs (X.suite a ((a, oe) :: pn)) (b₀ :: suite) (tSu X.K j f a cls d)) (r : HdD X hds ls)
    (hg : gls.contains x = true := by decide +kernel) (hdb : (x == ("__debug__" : Str)) = false := by decide +kernel) :
    HdD X (.ExceptHandler (some (.Name x np)) (some n) (b₀ :: suite) pos' :: hds) ((l, j, f) :: ls) := by
  obtain ⟨Dc, h1, h2⟩ := T.ex
  exact .cons (by rw [c.hN]; exact c.nd) (by rw [c.hN]; exact hN) hln (c.hg x (by simpa using hg)) hdb (md.some h1) (fun y b h => by rw [md.K]; exact h2 y b h) hsu r
theorem hx_kind (c : Ctx X W k N vis loc gls) (md : Md M X) {kl : List (Str × List Bool)} (T : KindT M) (kd : KdL M kl) (hk : 1 ≤ k) (hz : L2N.Zn cls d oe) (hf : ∃ vs, oe.data = .fields vs) (hN : N[j]? = some n) (hln : X.env.scope.names.lookup n = some .local) (hg : gls.contains ("_law_kind_of" : Str) = true := by decide +kernel)
    (hd : (n == ("__debug__" : Str)) = false := by decide +kernel) (hcd : (n == ("__classdict__" : Str)) = false := by decide +kernel) (hs : starEach [.Name n q2] X.env = [(false, eval (.Name n q2) X.env)] := by rfl) :
    PE (X.suite a ((a, oe) :: pn)) (.Call (.Name "_law_kind_of" q1) [.Name n q2] [] pos) (tHE X.K j a cls d (fxKind kl)) :=
  he_kind md T (fun y bs h => by rw [md.K, md.mg]; exact kd.ex y bs h) (RoomH.mono (roomH_of c.hr) hk) hz hf (c.hg _ (by simpa using hg)) (by rw [c.hN]; exact hN) (.inl hln) hd hcd hs
theorem hx_fld (c : Ctx X W k N vis loc gls) (md : Md M X) {y f : Str} {q3 : Pos} (T : FldC M y f) (hm : M.mg "str" = none) (hz : L2N.Zn cls d oe) (hf : ∃ vs, oe.data = .fields vs) (hN : N[j]? = some n) (hln : X.env.scope.names.lookup n = some .local) (hg : gls.contains ("str" : Str) = true := by decide +kernel)
    (hd : (n == ("__debug__" : Str)) = false := by decide +kernel) (hcd : (n == ("__classdict__" : Str)) = false := by decide +kernel) (hs : starEach [.Attribute (.Name n q2) f q3] X.env = [(false, eval (.Attribute (.Name n q2) f q3) X.env)] := by rfl) (hb : attributeBase (.Name n q2) f X.env (eval (.Name n q2) X.env) = eval (.Name n q2) X.env := by rfl) :
    PE (X.suite a ((a, oe) :: pn)) (.Call (.Name "str" q1) [.Attribute (.Name n q2) f q3] [] pos) (tHE X.K j a cls d (fxFld y f)) := by
  obtain ⟨C, h1, h2, h3⟩ := T.ex
  exact he_fld (by rw [md.K]; exact h1) (by rw [md.K]; exact h2) (by rw [md.K]; exact h3) hz hf (c.hg _ (by simpa using hg)) (md.no hm) (by rw [c.hN]; exact hN) (.inl hln) hd hcd hs hb
end

/-! ### from what the top has written -/
section
variable {K : PySem.W.Frag} {C D0 : Addr}
theorem kit_sub {b : Bool} (hc : PySem.W.isClsIn K D0 = true) (ht : PySem.W.typeIn K (.ref D0) = some (.type "type")) (hs : PySem.W.subIn K (.ref D0) (.ref D0) = some true) (h : PySem.W.subIn K (.ref C) (.ref D0) = some b) : PySem.W.kitOne K (.ref C) (.ref D0) = some b := by
  have hc : (PySem.W.clsIn K D0).isSome = true := hc
  unfold PySem.W.kitOne PySem.W.kitCls
  by_cases e : C = D0
  · subst e
    rw [hs] at h
    cases h
    simp
  · have : (Value.ref C == Value.ref D0) = false := by simpa using e
    rw [this, if_neg Bool.false_ne_true]
    simp only [hc, ht, beq_self_eq_true, Bool.and_true, if_true]
    exact h
theorem kit_val {b : Bool} (h : PySem.W.subIn K (.ref C) (.type "ValueError") = some b) : PySem.W.kitOne K (.ref C) (.type "ValueError") = some b := by
  unfold PySem.W.kitOne PySem.W.kitCls
  have : (Value.ref C == Value.type "ValueError") = false := by simp
  rw [this, if_neg Bool.false_ne_true]
  show (if PySem.W.kitMeta "ValueError" = true then PySem.W.subIn K (.ref C) (.type "ValueError") else none) = some b
  rw [if_pos (by decide +kernel)]
  exact h
theorem kits_own {mg : Str → Option Value} {bs : List Bool} (l : List Addr) (h0 : l.length = 15) (h : ∀ i y, kNames[i]? = some y → ∃ D0, l[i]? = some D0 ∧ mg y = some (.ref D0) ∧ PySem.W.kitOne K (.ref C) (.ref D0) = some (bs.getD i false)) : ∀ (i : Nat) (y : Str), kNames[i]? = some y → ∃ D0 : Addr, mg y = some (.ref D0) ∧ PySem.W.kitOne K (.ref C) (.ref D0) = some (bs.getD i false) := fun i y e => by
  obtain ⟨D0, _, h1, h2⟩ := h i y e
  exact ⟨D0, h1, h2⟩
theorem exm_sub {b : Bool} (h1 : PySem.W.subIn K (.ref D0) (.type "BaseException") = some true) (hd : PySem.W.hasDictIn K D0 = true) (ht : PySem.W.typeIn K (.ref D0) = some (.type "type")) (h : PySem.W.subIn K (.ref C) (.ref D0) = some b) : PySem.W.exmOne K (.ref C) (.ref D0) = some b := PySem.W.exm_ref h1 hd ht h
end
/-- .. one after the other -/
inductive KOwn (K : PySem.W.Frag) (mg : Str → Option Value) (C : Addr) (bs : List Bool) : Nat → List Str → Prop
  | nil {i : Nat} : KOwn K mg C bs i []
  | cons {i : Nat} {y : Str} {r : List Str} {D0 : Addr} : mg y = some (.ref D0) → PySem.W.kitOne K (.ref C) (.ref D0) = some (bs.getD i false) → KOwn K mg C bs (i + 1) r → KOwn K mg C bs i (y :: r)
theorem KOwn.at {K : PySem.W.Frag} {mg : Str → Option Value} {C : Addr} {bs : List Bool} : ∀ {i : Nat} {l : List Str}, KOwn K mg C bs i l → ∀ (m : Nat) (y : Str), l[m]? = some y → ∃ D0 : Addr, mg y = some (.ref D0) ∧ PySem.W.kitOne K (.ref C) (.ref D0) = some (bs.getD (i + m) false)
  | _, _, .nil, m, y, e => by simp at e
  | i, _, .cons (y := y0) h1 h2 r, 0, y, e => by
    simp at e
    subst e
    exact ⟨_, h1, h2⟩
  | i, _, .cons h1 h2 r, m + 1, y, e => by
    have := KOwn.at r m y (by simpa using e)
    rw [show i + 1 + m = i + (m + 1) by omega] at this
    exact this
theorem KOwn.all {K : PySem.W.Frag} {mg : Str → Option Value} {C : Addr} {bs : List Bool} (h : KOwn K mg C bs 0 kNames) : ∀ (i : Nat) (y : Str), kNames[i]? = some y → ∃ D0 : Addr, mg y = some (.ref D0) ∧ PySem.W.kitOne K (.ref C) (.ref D0) = some (bs.getD i false) := fun i y e => by
  have := KOwn.at h i y e
  rwa [Nat.zero_add] at this
inductive KdI (M : Mod) : List (Str × List Bool) → Prop
  | nil : KdI M []
  | cons {y : Str} {bs : List Bool} {r : List (Str × List Bool)} {C : Addr} : PySem.W.nsIn M.K mainGlobals y = some (some (.ref C)) → KitsC M.K M.mg C bs → KdI M r → KdI M ((y, bs) :: r)
theorem KdI.all {M : Mod} : ∀ {kl : List (Str × List Bool)}, KdI M kl → KdL M kl
  | _, .nil => ⟨fun y bs h => by cases h⟩
  | _, .cons (y := y0) h1 h2 r => ⟨fun y bs h => by
    rw [List.lookup_cons] at h
    cases q : y == y0 with
    | true =>
      rw [q] at h
      cases h
      rw [eq_of_beq q]
      exact ⟨_, h1, h2⟩
    | false =>
      rw [q] at h
      exact (KdI.all r).ex y bs h⟩
inductive HdI (M : Mod) (Dc : Addr) : List (Str × Bool) → Prop
  | nil : HdI M Dc []
  | cons {y : Str} {b : Bool} {r : List (Str × Bool)} {C : Addr} : PySem.W.nsIn M.K mainGlobals y = some (some (.ref C)) → PySem.W.exmOne M.K (.ref C) (.ref Dc) = some b → HdI M Dc r → HdI M Dc ((y, b) :: r)
theorem HdI.at {M : Mod} {Dc : Addr} : ∀ {l : List (Str × Bool)}, HdI M Dc l → ∀ y b, l.lookup y = some b → ∃ C : Addr, PySem.W.nsIn M.K mainGlobals y = some (some (.ref C)) ∧ PySem.W.exmOne M.K (.ref C) (.ref Dc) = some b
  | _, .nil => fun y b h => by cases h
  | _, .cons (y := y0) h1 h2 r => fun y b h => by
    rw [List.lookup_cons] at h
    cases q : y == y0 with
    | true =>
      rw [q] at h
      cases h
      rw [eq_of_beq q]
      exact ⟨_, h1, h2⟩
    | false =>
      rw [q] at h
      exact HdI.at r y b h
theorem HdI.all {M : Mod} {x : Str} {Dc : Addr} {l : List (Str × Bool)} (hm : M.mg x = some (.ref Dc)) (h : HdI M Dc l) : HdC M x l := ⟨Dc, hm, h.at⟩

/-! ### what holds behind, errors told -/
def R.V {α : Type} (r : R α) (Q : α → Sto → Prop) (E : Exn → Sto → Prop) : Prop := match r with
  | .ok a S => Q a S
  | .err x S => E x S
  | .bad => False
def RS.V (r : RS) (N : Env → Sto → Prop) (T : D → Sto → Prop) (E : Exn → Env → Sto → Prop) : Prop := match r with
  | .nx e S => N e S
  | .rt d S => T d S
  | .err x e S => E x e S
  | _ => False
theorem evX :
  (∀ (α : Type) (a : α) (S : Sto) (Q : α → Sto → Prop) (E : Exn → Sto → Prop), (R.ok a S).V Q E = Q a S) ∧
  (∀ (α : Type) (x : Exn) (S : Sto) (Q : α → Sto → Prop) (E : Exn → Sto → Prop), (R.err x S : R α).V Q E = E x S) ∧
  (∀ (α β : Type) (r : R α) (k : α → Sto → R β) (Q : β → Sto → Prop) (E : Exn → Sto → Prop), (r.bind k).V Q E = r.V (fun a S => (k a S).V Q E) E) ∧
  (∀ (α : Type) (r : R α) (env : Env) (k : α → Sto → RS) (N : Env → Sto → Prop) (T : D → Sto → Prop) (E : Exn → Env → Sto → Prop), (r.seq env k).V N T E = r.V (fun a S => (k a S).V N T E) fun x S => E x env S) ∧
  (∀ (r : RS) (k : Env → Sto → RS) (N : Env → Sto → Prop) (T : D → Sto → Prop) (E : Exn → Env → Sto → Prop), (r.bind k).V N T E = r.V (fun e S => (k e S).V N T E) T E) ∧
  (∀ (e : Env) (S : Sto) (N : Env → Sto → Prop) (T : D → Sto → Prop) (E : Exn → Env → Sto → Prop), (RS.nx e S).V N T E = N e S) ∧
  (∀ (d : D) (S : Sto) (N : Env → Sto → Prop) (T : D → Sto → Prop) (E : Exn → Env → Sto → Prop), (RS.rt d S).V N T E = T d S) ∧
  (∀ (x : Exn) (e : Env) (S : Sto) (N : Env → Sto → Prop) (T : D → Sto → Prop) (E : Exn → Env → Sto → Prop), (RS.err x e S).V N T E = E x e S) ∧
  (∀ (x : Str) (env : Env) (S : Sto), sRaise x env S = .err ⟨x, none⟩ env S) ∧
  (∀ (x f : Str) (fe : Env → Sto → R D) (env : Env) (S : Sto), sRaiseF x f fe env S = (fe env S).seq env fun d S1 => .err ⟨x, some [(f, d)]⟩ env S1) :=
  ⟨fun _ _ _ _ _ => rfl, fun _ _ _ _ _ => rfl, fun _ _ r _ _ _ => by cases r <;> rfl, fun _ r _ _ _ _ _ => by cases r <;> rfl, fun r _ _ _ _ => by cases r <;> rfl, fun _ _ _ _ _ => rfl, fun _ _ _ _ _ => rfl, fun _ _ _ _ _ _ => rfl, fun _ _ _ => rfl, fun _ _ _ _ _ => rfl⟩
theorem R.V_ret {rs : RS} {Q : D → Sto → Prop} {E : Exn → Sto → Prop} : (retOf rs).V Q E = rs.V (fun _ S => Q .non S) Q (fun x _ S => E x S) := by cases rs <;> rfl
theorem R.W.V {α : Type} {r : R α} {Q : α → Sto → Prop} {E : Exn → Sto → Prop} (h : r.W Q) : r.V Q E := by
  cases r with
  | ok _ _ => exact h
  | err _ _ => exact h.elim
  | bad => exact h.elim
theorem RS.W.V {r : RS} {N : Env → Sto → Prop} {T : D → Sto → Prop} {E : Exn → Env → Sto → Prop} (h : r.W N T) : r.V N T E := by
  cases r with
  | nx _ _ => exact h
  | rt _ _ => exact h
  | _ => exact h.elim
theorem R.V.mono {α : Type} {r : R α} {Q Q' : α → Sto → Prop} {E E' : Exn → Sto → Prop} (h : r.V Q E) (q : ∀ a S, Q a S → Q' a S) (e : ∀ x S, E x S → E' x S) : r.V Q' E' := by
  cases r with
  | ok a S => exact q a S h
  | err x S => exact e x S h
  | bad => exact h.elim
theorem RS.V.mono {r : RS} {N N' : Env → Sto → Prop} {T T' : D → Sto → Prop} {E E' : Exn → Env → Sto → Prop} (h : r.V N T E) (n : ∀ a S, N a S → N' a S) (t : ∀ a S, T a S → T' a S) (e : ∀ x a S, E x a S → E' x a S) : r.V N' T' E' := by
  cases r with
  | nx a S => exact n a S h
  | rt a S => exact t a S h
  | err x a S => exact e x a S h
  | _ => exact h.elim
theorem V_seq {f g : Env → Sto → RS} {env : Env} {S : Sto} {N : Env → Sto → Prop} {T : D → Sto → Prop} {E : Exn → Env → Sto → Prop} (Mid : Env → Sto → Prop) (h : (f env S).V Mid T E) (k : ∀ e S', Mid e S' → (g e S').V N T E) : (sSeq f g env S).V N T E := by
  show ((f env S).bind g).V N T E
  rw [evX.2.2.2.2.1]
  exact h.mono k (fun _ _ h => h) fun _ _ _ h => h
theorem W_try {fb : Env → Sto → RS} {l : HdL} {env : Env} {S : Sto} {N : Env → Sto → Prop} {T : D → Sto → Prop} (h : (fb env S).V N T fun x e S1 => (sHds l x e S1).W N T) : (sTry fb l env S).W N T := by
  unfold sTry
  cases q : fb env S with
  | nx e S1 => rw [q] at h; exact h
  | rt e S1 => rw [q] at h; exact h
  | err x e S1 => rw [q] at h; exact h
  | bk _ _ => rw [q] at h; exact h.elim
  | ct _ _ => rw [q] at h; exact h.elim
  | bad => rw [q] at h; exact h.elim
end DL

namespace DL
open PySem PySem.Spec PyProof.Rows L2

/-! ### min(xs) of flat tuples -/
def mnT (t : TKy) (ts : List TKy) : TKy := ts.foldl (fun a y => if DL.tLt y a then y else a) t
theorem kpys_inj : ∀ {x y : TKy}, x.map kpy = y.map kpy → x = y
  | [], [], _ => rfl
  | [], _ :: _, h => by simp at h
  | _ :: _, [], h => by simp at h
  | x :: xs, y :: ys, h => by
    rw [List.map_cons, List.map_cons] at h
    injection h with h1 h2
    rw [kpy_inj h1, kpys_inj h2]
theorem tpy_inj {x y : TKy} (h : tpy x = tpy y) : x = y := kpys_inj (PyData.tuple.inj h)
theorem mnT_mem : ∀ (ts : List TKy) (t : TKy), mnT t ts ∈ t :: ts
  | [], t => by simp [mnT]
  | y :: ts, t => by
    have := mnT_mem ts (if DL.tLt y t then y else t)
    show mnT (if DL.tLt y t then y else t) ts ∈ _
    split at this <;> (rename_i z; simp only [z, if_true, if_false, Bool.false_eq_true] at this ⊢; rcases List.mem_cons.mp this with e | e) <;> simp_all
theorem minD_t : ∀ (ts : List TKy) (t : TKy), (∀ x ∈ t :: ts, ∀ y ∈ t :: ts, tSame x y = true) → PySem.W.minD (tpy t) (ts.map tpy) = tpy (mnT t ts)
  | [], _, _ => rfl
  | y :: ts, t, h => by
    have e : PySem.W.dataLt (tpy y) (tpy t) = DL.tLt y t := dataLt_t (h y (by simp) t (by simp))
    have hh : ∀ c, (c = y ∨ c = t) → PySem.W.minD (tpy c) (ts.map tpy) = tpy (mnT c ts) := fun c hc => minD_t ts c fun a ha b hb => by
      have m : ∀ z, z ∈ c :: ts → z ∈ t :: y :: ts := fun z hz => by
        rcases List.mem_cons.mp hz with rfl | hz
        · rcases hc with rfl | rfl <;> simp
        · simp [hz]
      exact h a (m a ha) b (m b hb)
    show PySem.W.minD (if PySem.W.dataLt (tpy y) (tpy t) then tpy y else tpy t) (ts.map tpy) = tpy (mnT (if DL.tLt y t then y else t) ts)
    rw [e]
    cases DL.tLt y t with
    | true => exact hh y (.inl rfl)
    | false => exact hh t (.inr rfl)
open Classical in
noncomputable def bMinT (l : LS) (S : Sto) : R D := (getB l S).bind fun xs S1 => match tups xs with
  | some (t :: ts) => if ∀ x ∈ t :: ts, ∀ y ∈ t :: ts, tSame x y = true then .ok (tuD (mnT t ts)) S1 else .bad
  | _ => .bad
section
variable {X : Cx} {W : WX} {k : Nat} {N : List Str} {vis loc : List Nat} {gls : List Str} {e e2 : Expr} {x : Str} {p p2 pos q2 : Pos} {gl : Env → Sto → R LS} {K : PySem.W.Frag} {H : Hp} {ι : List Addr}
def rMinT (K : PySem.W.Frag) : List V → Hp → VK → Prop := fun vs H Q => ∃ (a : Addr) (p : AK) (L : List AK), vs = [V.ref a] ∧ SqL K H a ((p :: L).map fun q => V.ref q.1) ∧ (∀ q ∈ p :: L, Dp K H (.ref q.1) (tpy q.2)) ∧ (∀ x ∈ p :: L, ∀ y ∈ p :: L, tSame x.2 y.2 = true) ∧
  ∀ q ∈ p :: L, q.2 = mnT p.2 (L.map Prod.snd) → Q (.ref q.1) H
theorem reads_tm {X : Cx} {pins : List (Addr × Obj)} {s : Shared} {σ : St} (I : Inv X pins σ H s) : ∀ {L : List AK} {us : List Value}, Vals (L.map fun q => V.ref q.1) us → (∀ q ∈ L, Dp X.K H (.ref q.1) (tpy q.2)) → ∃ as, ReadsAll s.heap us (L.map fun q => tpy q.2) as
  | [], _, .nil, _ => ⟨[], .nil⟩
  | q :: L, _, .cons r t, h => by
    obtain ⟨as, ra⟩ := reads_tm I t fun b hb => h b (List.mem_cons_of_mem _ hb)
    obtain ⟨bs, rb⟩ := Dp.reads I _ _ _ (h q (by simp)) r
    exact ⟨_, .cons rb ra⟩
theorem vals_tm : ∀ {L : List AK} {us : List Value} {i : Nat} {v : Value}, Vals (L.map fun q => V.ref q.1) us → us[i]? = some v → ∃ q ∈ L, v = .ref q.1
  | [], _, i, v, .nil, h => by simp at h
  | q :: L, _, 0, v, .cons r t, h => by
    have e := Option.some.inj (show some _ = some v from h)
    subst e
    exact ⟨q, by simp, r⟩
  | q :: L, _, i + 1, v, .cons r t, h => by
    obtain ⟨b, hb, e⟩ := vals_tm (i := i) t (by simpa using h)
    exact ⟨b, List.mem_cons_of_mem _ hb, e⟩
theorem cr_minT (hc : X.calm = true) (hu : X.A.units + 64 < cLine) : CallR X (.builtin "min") (rMinT X.K) := by
  intro pins s σ H vs us Q I r h
  obtain ⟨a, p, L, rfl, hs, hd, hal, q⟩ := h
  obtain ⟨its, rv, hl, _⟩ := I.list hs
  rw [Vals.ref1 r]
  obtain ⟨as, ra⟩ := reads_tm I rv hd
  have dep : PyData.depthAll ((p :: L).map fun q => tpy q.2) ≤ 1 := by
    have := depthAll_t ((p :: L).map Prod.snd)
    rw [List.map_map] at this
    exact this
  have hm := minD_t (L.map Prod.snd) p.2 fun x hx y hy => by
    rw [← List.map_cons (f := Prod.snd)] at hx hy
    obtain ⟨x', mx, rfl⟩ := List.mem_map.mp hx
    obtain ⟨y', my, rfl⟩ := List.mem_map.mp hy
    exact hal x' mx y' my
  rw [List.map_map] at hm
  refine PySem.W.min_list_data (x := tpy p.2) (xs := L.map fun q => tpy q.2) (I.ok.hd hc) hl.isList (as := as) (by simpa using ra) ⟨?_, ?_⟩ (Nat.lt_of_le_of_lt (Nat.add_le_add_left dep _) (by omega)) ?_
  · intro x hx y hy
    rw [← List.map_cons (f := fun q : AK => tpy q.2)] at hx hy
    obtain ⟨x', mx, rfl⟩ := List.mem_map.mp hx
    obtain ⟨y', my, rfl⟩ := List.mem_map.mp hy
    show PySem.W.alike (.tuple _) (.tuple _) = true
    simp only [PySem.W.alike]
    exact alikeAll_k (hal x' mx y' my)
  · intro x hx
    rw [← List.map_cons (f := fun q : AK => tpy q.2)] at hx
    obtain ⟨x', mx, rfl⟩ := List.mem_map.mp hx
    simp [tpy]
  · intro i v h' tk bs hi rd hk
    obtain ⟨b, mb, rfl⟩ := vals_tm (i := i) rv (by simpa using hi)
    obtain ⟨cs, rc⟩ := Dp.reads I _ _ _ (hd b mb) (show RelV (.ref b.1) (.ref b.1) from rfl)
    have e := (reads_det (fun b o g _ => hk b o g) rc rd).1
    have e2 : b.2 = mnT p.2 (L.map Prod.snd) := tpy_inj (e.symm.trans hm)
    exact ⟨.ref b.1, H, I.kept hk, rfl, q b mb e2⟩
theorem minT_ok : Rd1 X W (rMinT X.K) bMinT := fun σ H0 H ι0 ι S l v Q e r d h => by
  obtain ⟨a, xs, vs, rfl, hs, dd, h⟩ := getB_end r d h
  cases q : tups xs with
  | none => rw [q] at h; exact h.elim
  | some ts =>
    rw [q] at h
    obtain rfl := tups_inv q
    cases ts with
    | nil => exact h.elim
    | cons t ts =>
      simp only at h
      obtain ⟨L, rfl, e2, hk⟩ := pairs_of dd
      cases L with
      | nil => cases e2
      | cons p L =>
        rw [List.map_cons] at e2
        injection e2 with e3 e4
        subst e3 e4
        by_cases hc : ∀ x ∈ p.2 :: L.map Prod.snd, ∀ y ∈ p.2 :: L.map Prod.snd, tSame x y = true
        · rw [if_pos hc] at h
          refine ⟨a, p, L, rfl, hs, fun b mb => toPy_ok r 12 _ _ _ (hk b mb) (toPy_tD S 10 _), fun x mx y my => hc _ ?_ _ ?_, fun b mb eb => ?_⟩
          · rw [← List.map_cons (f := Prod.snd)]
            exact List.mem_map_of_mem mx
          · rw [← List.map_cons (f := Prod.snd)]
            exact List.mem_map_of_mem my
          · rw [← eb] at h
            exact h ι H _ (Ext.refl _ _) r (hk b mb)
        · rw [if_neg hc] at h
          exact h.elim
theorem de_minT (c : Ctx X W k N vis loc gls) (ha : PE X e (tLS X.K gl W)) (hm : X.mg "min" = none) (hg : gls.contains ("min" : Str) = true := by decide +kernel) (hs : starEach [e] X.env = (false, eval e X.env) :: starEach [] X.env := by rfl) : PE X (.Call (.Name "min" p) [e] [] pos) (tD X.K (eB1 gl bMinT) W) := de_b1 c (cr_minT c.calm (by have := c.hr.un; omega)) minT_ok ha hm (by decide +kernel) hg (by decide +kernel) (by decide +kernel) hs
end
end DL

/-! purses in plain words: lots by their ends, and a debt -/
namespace DL
open PySem PySem.Spec PyProof.Rows L2

abbrev Lots := List (Int × Int)
abbrev Srt (l : Lots) : Prop := l.Pairwise fun a b => a.1 < b.1
abbrev Pos (l : Lots) : Prop := ∀ x ∈ l, 0 < x.2
def sumL (l : Lots) : Int := (l.map (·.2)).sum
def getL0 (l : Lots) (e : Int) : Int := (l.lookup e).getD 0
def putL (l : Lots) (e v : Int) : Lots := match l with
  | [] => [(e, v)]
  | x :: r => if e < x.1 then (e, v) :: x :: r else if e = x.1 then (e, v) :: r else x :: putL r e v
structure Pu where
  lots : Lots
  debt : Int
def Pu.zero : Pu := ⟨[], 0⟩
structure Pu.Ok (p : Pu) : Prop where
  srt : Srt p.lots
  pos : Pos p.lots
  deb : 0 ≤ p.debt
def Pu.has (p : Pu) : Int := sumL p.lots
def Pu.gain (p : Pu) (pts e : Int) : Pu := ⟨if min pts p.debt < pts then putL p.lots e (getL0 p.lots e + pts - min pts p.debt) else p.lots, p.debt - min pts p.debt⟩
/-- paid, and left -/
def outL : Int → Lots → Lots × Lots
  | _, [] => ([], [])
  | p, (e, h) :: r => ((if 0 < min p h then (e, min p h) :: (outL (p - min p h) r).1 else (outL (p - min p h) r).1), if min p h < h then (e, h - min p h) :: (outL (p - min p h) r).2 else (outL (p - min p h) r).2)
def Pu.out (p : Pu) (pts : Int) : Pu := ⟨(outL pts p.lots).2, p.debt⟩
def Pu.back (p : Pu) (pts : Int) : Pu := ⟨(outL pts p.lots).2, p.debt + max 0 (pts - p.has)⟩
def Pu.ended (p : Pu) (h : Int) : Int := sumL (p.lots.filter fun x => decide (x.1 ≤ h))
def Pu.ends (p : Pu) (h : Int) : Pu := ⟨p.lots.filter fun x => decide (h < x.1), p.debt⟩

theorem Srt.nodup {l : Lots} (h : Srt l) : (l.map (·.1)).Nodup := by
  rw [List.nodup_iff_pairwise_ne, List.pairwise_map]
  exact List.Pairwise.imp (fun z => by omega) h
theorem Srt.nod {l : Lots} (h : Srt l) : l.Nodup := List.Pairwise.imp (fun {a b} (z : a.1 < b.1) e => by rw [e] at z; omega) h
theorem nodup_of_keys {l : Lots} (h : (l.map (·.1)).Nodup) : l.Nodup := by
  rw [List.nodup_iff_pairwise_ne, List.pairwise_map] at h
  exact List.Pairwise.imp (fun {a b} (z : a.1 ≠ b.1) e => z (by rw [e])) h
theorem putL_mem {l : Lots} (h : Srt l) {e v : Int} {x : Int × Int} : x ∈ putL l e v ↔ x = (e, v) ∨ (x ∈ l ∧ x.1 ≠ e) := by
  induction l with
  | nil => simp [putL]
  | cons y r ih =>
    have hy := List.pairwise_cons.mp h
    unfold putL
    by_cases h1 : e < y.1
    · rw [if_pos h1]
      simp only [List.mem_cons]
      constructor
      · rintro (h | h)
        · exact .inl h
        · refine .inr ⟨h, ?_⟩
          rcases h with rfl | h
          · omega
          · have := hy.1 x h; omega
      · rintro (h | ⟨h, _⟩)
        · exact .inl h
        · exact .inr h
    · rw [if_neg h1]
      by_cases h2 : e = y.1
      · rw [if_pos h2]
        simp only [List.mem_cons]
        constructor
        · rintro (h | h)
          · exact .inl h
          · have := hy.1 x h
            exact .inr ⟨.inr h, by omega⟩
        · rintro (h | ⟨h | h, h3⟩)
          · exact .inl h
          · subst h; exact absurd h2.symm h3
          · exact .inr h
      · rw [if_neg h2]
        simp only [List.mem_cons, ih hy.2]
        constructor
        · rintro (h | h | ⟨h, h3⟩)
          · subst h; exact .inr ⟨.inl rfl, by omega⟩
          · exact .inl h
          · exact .inr ⟨.inr h, h3⟩
        · rintro (h | ⟨h | h, h3⟩)
          · exact .inr (.inl h)
          · exact .inl h
          · exact .inr (.inr ⟨h, h3⟩)
theorem putL_srt {l : Lots} (h : Srt l) (e v : Int) : Srt (putL l e v) := by
  induction l with
  | nil => simp [putL, Srt]
  | cons y r ih =>
    have hy := List.pairwise_cons.mp h
    unfold putL
    by_cases h1 : e < y.1
    · rw [if_pos h1]
      exact List.pairwise_cons.mpr ⟨fun x m => by
        rcases List.mem_cons.mp m with rfl | m
        · exact h1
        · have := hy.1 x m; show e < x.1; omega, h⟩
    · rw [if_neg h1]
      by_cases h2 : e = y.1
      · rw [if_pos h2]
        exact List.pairwise_cons.mpr ⟨fun x m => by have := hy.1 x m; show e < x.1; omega, hy.2⟩
      · rw [if_neg h2]
        exact List.pairwise_cons.mpr ⟨fun x m => by
          rcases (putL_mem hy.2).mp m with rfl | ⟨m, _⟩
          · show y.1 < e; omega
          · exact hy.1 x m, ih hy.2⟩
theorem lookup_mem {l : Lots} {e v : Int} (h : l.lookup e = some v) : (e, v) ∈ l := by
  induction l with
  | nil => cases h
  | cons y r ih =>
    rw [List.lookup_cons] at h
    split at h
    · rename_i z
      cases h
      have : e = y.1 := by simpa using z
      exact List.mem_cons.mpr (.inl (by rw [this]))
    · exact List.mem_cons_of_mem _ (ih h)
theorem lookup_of_mem {l : Lots} (h : (l.map (·.1)).Nodup) {e v : Int} (m : (e, v) ∈ l) : l.lookup e = some v := by
  induction l with
  | nil => cases m
  | cons y r ih =>
    rw [List.map_cons, List.nodup_cons] at h
    rw [List.lookup_cons]
    rcases List.mem_cons.mp m with z | m
    · subst z; simp
    · have : (e == y.1) = false := by
        simp only [beq_eq_false_iff_ne, ne_eq]
        rintro rfl
        exact h.1 (List.mem_map.mpr ⟨_, m, rfl⟩)
      rw [this]
      exact ih h.2 m
theorem getL0_pos {l : Lots} (h : Pos l) (e : Int) : 0 ≤ getL0 l e := by
  unfold getL0
  cases q : l.lookup e with
  | none => exact Int.le_refl _
  | some v => exact Int.le_of_lt (h _ (lookup_mem q))
theorem Pu.gain_ok {p : Pu} (h : p.Ok) {pts : Int} (hp : 0 ≤ pts) (e : Int) : (p.gain pts e).Ok := by
  have hd := h.deb
  unfold Pu.gain
  by_cases c : min pts p.debt < pts
  · rw [if_pos c]
    refine ⟨putL_srt h.srt _ _, fun x m => ?_, by show 0 ≤ p.debt - min pts p.debt; omega⟩
    rcases (putL_mem h.srt).mp m with rfl | ⟨m, _⟩
    · have := getL0_pos h.pos e
      show 0 < getL0 p.lots e + pts - min pts p.debt
      omega
    · exact h.pos x m
  · rw [if_neg c]
    exact ⟨h.srt, h.pos, by show 0 ≤ p.debt - min pts p.debt; omega⟩
theorem outL_mem2 : ∀ {l : Lots} {p : Int} {x : Int × Int}, 0 ≤ p → x ∈ (outL p l).2 → ∃ y ∈ l, y.1 = x.1 ∧ x.2 ≤ y.2
  | [], p, x, _, m => by cases m
  | (e, h) :: r, p, x, hp, m => by
    simp only [outL] at m
    split at m
    · rcases List.mem_cons.mp m with rfl | m
      · exact ⟨(e, h), by simp, rfl, by show h - min p h ≤ h; omega⟩
      · obtain ⟨y, my, z⟩ := outL_mem2 (by omega) m
        exact ⟨y, List.mem_cons_of_mem _ my, z⟩
    · obtain ⟨y, my, z⟩ := outL_mem2 (by omega) m
      exact ⟨y, List.mem_cons_of_mem _ my, z⟩
theorem outL_mem1 : ∀ {l : Lots} {p : Int} {x : Int × Int}, x ∈ (outL p l).1 → 0 < x.2 ∧ ∃ y ∈ l, y.1 = x.1
  | [], p, x, m => by cases m
  | (e, h) :: r, p, x, m => by
    simp only [outL] at m
    split at m
    · rcases List.mem_cons.mp m with rfl | m
      · exact ⟨by assumption, (e, h), by simp, rfl⟩
      · obtain ⟨z0, y, my, z⟩ := outL_mem1 m
        exact ⟨z0, y, List.mem_cons_of_mem _ my, z⟩
    · obtain ⟨z0, y, my, z⟩ := outL_mem1 m
      exact ⟨z0, y, List.mem_cons_of_mem _ my, z⟩
theorem outL_pos : ∀ {l : Lots} {p : Int}, Pos l → Pos (outL p l).2
  | [], p, _, x, m => by cases m
  | (e, h) :: r, p, hl, x, m => by
    simp only [outL] at m
    have hr : Pos r := fun y my => hl y (List.mem_cons_of_mem _ my)
    split at m
    · rcases List.mem_cons.mp m with rfl | m
      · show 0 < h - min p h; omega
      · exact outL_pos hr x m
    · exact outL_pos hr x m
theorem outL_srt2 : ∀ {l : Lots} {p : Int}, Srt l → 0 ≤ p → Srt (outL p l).2
  | [], p, _, _ => .nil
  | (e, h) :: r, p, hl, hp => by
    have hy := List.pairwise_cons.mp hl
    simp only [outL]
    split
    · exact List.pairwise_cons.mpr ⟨fun x m => by
        obtain ⟨y, my, z, _⟩ := outL_mem2 (by omega) m
        have : e < y.1 := hy.1 y my
        show e < x.1; omega, outL_srt2 hy.2 (by omega)⟩
    · exact outL_srt2 hy.2 (by omega)
theorem outL_srt1 : ∀ {l : Lots} {p : Int}, Srt l → Srt (outL p l).1
  | [], p, _ => .nil
  | (e, h) :: r, p, hl => by
    have hy := List.pairwise_cons.mp hl
    simp only [outL]
    split
    · exact List.pairwise_cons.mpr ⟨fun x m => by
        obtain ⟨_, y, my, z⟩ := outL_mem1 m
        have : e < y.1 := hy.1 y my
        show e < x.1; omega, outL_srt1 hy.2⟩
    · exact outL_srt1 hy.2
theorem outL_sum : ∀ {l : Lots} {p : Int}, Pos l → 0 ≤ p → sumL (outL p l).1 = min p (sumL l) ∧ sumL (outL p l).2 = sumL l - min p (sumL l)
  | [], p, _, hp => by simp [outL, sumL]; omega
  | (e, h) :: r, p, hl, hp => by
    have hh : 0 < h := hl (e, h) (by simp)
    have hr : Pos r := fun y my => hl y (List.mem_cons_of_mem _ my)
    obtain ⟨i1, i2⟩ := outL_sum (p := p - min p h) hr (by omega)
    have s0 : 0 ≤ sumL r := by
      clear i1 i2 hl
      induction r with
      | nil => simp [sumL]
      | cons y r ih =>
        have := hr y (by simp)
        have := ih fun z mz => hr z (List.mem_cons_of_mem _ mz)
        simp only [sumL, List.map_cons, List.sum_cons] at *
        omega
    simp only [sumL] at i1 i2 s0 ⊢
    simp only [outL]
    constructor
    · split <;> simp only [List.map_cons, List.sum_cons] <;> omega
    · split <;> simp only [List.map_cons, List.sum_cons] <;> omega
theorem sumL_nn : ∀ {l : Lots}, Pos l → 0 ≤ sumL l
  | [], _ => by simp [sumL]
  | y :: r, h => by
    have h1 := h y (by simp)
    have h2 := sumL_nn (l := r) fun z mz => h z (List.mem_cons_of_mem _ mz)
    simp only [sumL, List.map_cons, List.sum_cons] at *
    omega
theorem Pu.out_ok {p : Pu} (h : p.Ok) {pts : Int} (hp : 0 ≤ pts) : (p.out pts).Ok := ⟨outL_srt2 h.srt hp, outL_pos h.pos, h.deb⟩
theorem Pu.back_ok {p : Pu} (h : p.Ok) {pts : Int} (hp : 0 ≤ pts) : (p.back pts).Ok := ⟨outL_srt2 h.srt hp, outL_pos h.pos, by have := h.deb; show 0 ≤ p.debt + max 0 (pts - p.has); omega⟩
theorem Pu.ends_ok {p : Pu} (h : p.Ok) (e : Int) : (p.ends e).Ok := ⟨List.Pairwise.filter _ h.srt, fun x m => h.pos x (List.mem_filter.mp m).1, h.deb⟩
theorem Pu.zero_ok : Pu.zero.Ok := ⟨.nil, fun x m => (nomatch m), Int.le_refl _⟩
theorem Pu.ends_zero (e : Int) : Pu.zero.ends e = Pu.zero := rfl
theorem Pu.ended_zero (e : Int) : Pu.zero.ended e = 0 := rfl
theorem Pu.ended_nn {p : Pu} (h : p.Ok) (e : Int) : 0 ≤ p.ended e := sumL_nn fun x m => h.pos x (List.mem_filter.mp m).1

/-! ### any order of lots -/
def entI (x : Int × Int) : Key × D := (.inl x.1, .int x.2)
theorem kGet_ii {l : Lots} {e : Int} : kGet (l.map entI) (.inl e) = (l.lookup e).map D.int := by
  induction l with
  | nil => rfl
  | cons y r ih =>
    unfold kGet at ih ⊢
    rw [List.map_cons, List.find?_cons, List.lookup_cons]
    by_cases h : y.1 = e
    · have h1 : decide ((entI y).1 = (.inl e : Key)) = true := by simp [entI, h]
      have h2 : (e == y.1) = true := by simp [h]
      rw [h1, h2]
      rfl
    · have h1 : decide ((entI y).1 = (.inl e : Key)) = false := by simp [entI, h]
      have h2 : (e == y.1) = false := by simp; omega
      rw [h1, h2]
      exact ih
/-- put at its place, or behind -/
def putA (l : Lots) (e v : Int) : Lots := if (l.any fun x => decide (x.1 = e)) = true then l.map (fun x => if x.1 = e then (e, v) else x) else l ++ [(e, v)]
theorem kPut_ii (l : Lots) (e v : Int) : kPut (l.map entI) (.inl e) (.int v) = (putA l e v).map entI := by
  have ea : ((l.map entI).any fun p => decide (p.1 = (.inl e : Key))) = l.any fun x => decide (x.1 = e) := by
    rw [List.any_map]
    congr 1
    funext x
    simp [entI]
  unfold kPut putA
  rw [ea]
  by_cases h : (l.any fun x => decide (x.1 = e)) = true
  · rw [if_pos h, if_pos h, List.map_map, List.map_map]
    refine List.map_congr_left fun x _ => ?_
    by_cases hx : x.1 = e
    · simp [entI, hx]
    · simp [entI, hx]
  · rw [if_neg h, if_neg h, List.map_append]
    rfl
theorem putA_mem {l : Lots} (hn : (l.map (·.1)).Nodup) {e v : Int} {x : Int × Int} : x ∈ putA l e v ↔ x = (e, v) ∨ (x ∈ l ∧ x.1 ≠ e) := by
  unfold putA
  by_cases h : (l.any fun x => decide (x.1 = e)) = true
  · rw [if_pos h]
    obtain ⟨y, my, hy⟩ := List.any_eq_true.mp h
    have hy : y.1 = e := by simpa using hy
    simp only [List.mem_map]
    constructor
    · rintro ⟨z, mz, rfl⟩
      by_cases hz : z.1 = e
      · rw [if_pos hz]; exact .inl rfl
      · rw [if_neg hz]; exact .inr ⟨mz, hz⟩
    · rintro (rfl | ⟨mx, hx⟩)
      · exact ⟨y, my, by rw [if_pos hy]⟩
      · exact ⟨x, mx, by rw [if_neg hx]⟩
  · rw [if_neg h]
    simp only [List.mem_append, List.mem_singleton]
    constructor
    · rintro (m | rfl)
      · refine .inr ⟨m, fun z => h (List.any_eq_true.mpr ⟨x, m, by simpa using z⟩)⟩
      · exact .inl rfl
    · rintro (rfl | ⟨m, _⟩)
      · exact .inr rfl
      · exact .inl m
theorem putA_nodup {l : Lots} (hn : (l.map (·.1)).Nodup) (e v : Int) : ((putA l e v).map (·.1)).Nodup := by
  unfold putA
  by_cases h : (l.any fun x => decide (x.1 = e)) = true
  · rw [if_pos h, List.map_map]
    have : ((fun x : Int × Int => x.1) ∘ fun x => if x.1 = e then (e, v) else x) = fun x => x.1 := by
      funext x
      by_cases hx : x.1 = e
      · simp [hx]
      · simp [hx]
    rw [this]
    exact hn
  · rw [if_neg h, List.map_append, List.nodup_append]
    refine ⟨hn, by simp, fun a ha b hb z => h ?_⟩
    obtain ⟨x, mx, rfl⟩ := List.mem_map.mp ha
    have hb : b = e := by simpa using hb
    exact List.any_eq_true.mpr ⟨x, mx, by rw [decide_eq_true_eq, z, hb]⟩
theorem putA_len (l : Lots) (e v : Int) : (putA l e v).length ≤ l.length + 1 := by
  unfold putA
  split <;> simp
theorem put_perm {k l : Lots} (hp : k.Perm l) (hs : Srt l) (e v : Int) : (putA k e v).Perm (putL l e v) := by
  have nk : (k.map (·.1)).Nodup := (hp.map (·.1)).nodup_iff.mpr hs.nodup
  refine (List.perm_ext_iff_of_nodup (nodup_of_keys (putA_nodup nk e v)) (putL_srt hs e v).nod).mpr fun x => ?_
  rw [putA_mem nk, putL_mem hs, hp.mem_iff]
theorem lookup_perm {k l : Lots} (hp : k.Perm l) (hs : Srt l) (e : Int) : k.lookup e = l.lookup e := by
  have nk : (k.map (·.1)).Nodup := (hp.map (·.1)).nodup_iff.mpr hs.nodup
  cases q : l.lookup e with
  | some v => exact lookup_of_mem nk (hp.mem_iff.mpr (lookup_mem q))
  | none =>
    cases q2 : k.lookup e with
    | none => rfl
    | some v => rw [lookup_of_mem hs.nodup (hp.mem_iff.mp (lookup_mem q2))] at q; cases q
theorem tLe_ii (a b : Int × Int) : a.1 < b.1 → DL.tLe (iiK a) (iiK b) = true := fun h => by
  have ne : ¬ b.1 = a.1 := by omega
  simp only [DL.tLe, iiK, DL.tLt, Sum.inl.injEq, ne, if_false, DL.kLt]
  simp
  omega
theorem srt_items {k l : Lots} (hp : k.Perm l) (hs : Srt l) : (k.map iiK).mergeSort DL.tLe = l.map iiK := by
  refine sorted_eq ((List.mergeSort_perm _ _).trans (hp.map iiK)) (sort_sorted _) ?_
  rw [List.pairwise_map]
  exact List.Pairwise.imp (fun {a b} h => tLe_ii a b h) hs
theorem iiOf_map (l : Lots) : iiOf (l.map entI) = some l := by
  induction l with
  | nil => rfl
  | cons x r ih => show (iiOf (r.map entI)).map _ = _; rw [ih]; rfl
def lotD (x : Int × Int) : D := tuD (iiK x)
theorem sum_perm {k l : List Int} (hp : k.Perm l) : k.sum = l.sum := by
  induction hp with
  | nil => rfl
  | cons x _ ih => simp only [List.sum_cons, ih]
  | swap x y l => simp only [List.sum_cons]; omega
  | trans _ _ h1 h2 => exact h1.trans h2
theorem sumL_perm {k l : Lots} (hp : k.Perm l) : sumL k = sumL l := sum_perm (hp.map (·.2))
theorem nodup_len {α : Type} [DecidableEq α] : ∀ {l m : List α}, l.Nodup → (∀ x ∈ l, x ∈ m) → l.length ≤ m.length
  | [], _, _, _ => Nat.zero_le _
  | x :: l, m, hn, h => by
    have hx := List.nodup_cons.mp hn
    have mx := h x (by simp)
    have := nodup_len (l := l) (m := m.erase x) hx.2 fun y my => (List.mem_erase_of_ne (fun e : y = x => hx.1 (by rw [← e]; exact my))).mpr (h y (List.mem_cons_of_mem _ my))
    rw [List.length_erase_of_mem mx] at this
    have := List.length_pos_of_mem mx
    simp only [List.length_cons]
    omega
/-- the ends are among these -/
abbrev Among (E : List Int) (l : Lots) : Prop := ∀ x ∈ l, x.1 ∈ E
theorem among_len {E : List Int} {l : Lots} (hs : Srt l) (h : Among E l) : l.length ≤ E.length := by
  have := nodup_len (l := l.map (·.1)) (m := E) hs.nodup fun x m => by
    obtain ⟨y, my, rfl⟩ := List.mem_map.mp m
    exact h y my
  simpa using this
theorem Among.put {E : List Int} {l : Lots} (hs : Srt l) (h : Among E l) {e : Int} (he : e ∈ E) (v : Int) : Among E (putL l e v) := fun x m => by
  rcases (putL_mem hs).mp m with rfl | ⟨m, _⟩
  · exact he
  · exact h x m
theorem Among.out2 {E : List Int} {l : Lots} (h : Among E l) {p : Int} (hp : 0 ≤ p) : Among E (outL p l).2 := fun x m => by
  obtain ⟨y, my, e, _⟩ := outL_mem2 hp m
  rw [← e]; exact h y my
theorem Among.out1 {E : List Int} {l : Lots} (h : Among E l) {p : Int} : Among E (outL p l).1 := fun x m => by
  obtain ⟨_, y, my, e⟩ := outL_mem1 m
  rw [← e]; exact h y my
end DL

/-! running by simp, the rest; objects by their roles -/
namespace DL
open PySem PySem.Spec PyProof.Rows L2

theorem ev7 :
  (∀ (T : String) (fo : DL.Env → Sto → R D) (fa : DL.Env → Sto → R (List D)) (g : D → List D → Sto → R D) (env : DL.Env) (S : Sto), eBm T fo fa g env S = (fo env S).bind fun x S1 => if tyD T x S1 then (fa env S1).bind fun xs S2 => g x xs S2 else .bad) ∧
  (∀ (fo fi : DL.Env → Sto → R D) (env : DL.Env) (S : Sto), eGet1 fo fi env S = (fo env S).bind fun x S1 => if isDict x S1 then (fi env S1).bind fun y S2 => mGet1 x y S2 else .bad) ∧
  (∀ (fo fi fz : DL.Env → Sto → R D) (env : DL.Env) (S : Sto), eGet2 fo fi fz env S = (fo env S).bind fun x S1 => if isDict x S1 then (fi env S1).bind fun y S2 => (fz env S2).bind fun z S3 => mGet2 x y z S3 else .bad) ∧
  (∀ (fo fi : DL.Env → Sto → R D) (env : DL.Env) (S : Sto), eDPop fo fi env S = (fo env S).bind fun x S1 => if isDict x S1 then (fi env S1).bind fun y S2 => mDPop x y S2 else .bad) ∧
  (∀ (env : DL.Env) (S : Sto), eDNewK env S = .ok (.ref S.length) (S ++ [.dK []])) ∧
  (∀ (env : DL.Env) (S : Sto), eDNewT env S = .ok (.ref S.length) (S ++ [.dT []])) ∧
  (∀ (env : DL.Env) (S : Sto), sRetN env S = .rt .non S) ∧
  (∀ (i : Nat) (op : Op2) (fe : DL.Env → Sto → R D) (env : DL.Env) (S : Sto), sAug i op fe env S = match env[i]? with
    | some (some x) => (fe env S).seq env fun y S1 => (match op x y with
      | some z => .nx (env.set i (some z)) S1
      | none => .bad)
    | _ => .bad) ∧
  (∀ (C : Addr) (f : Str) (op : Op2) (fo fv : DL.Env → Sto → R D) (env : DL.Env) (S : Sto), sFldA C f op fo fv env S = (fo env S).seq env fun o S1 => match getF' C f o S1 with
    | some x => (fv env S1).seq env fun y S2 => (match op x y with
      | some z => (match putF' C f o z S2 with
        | some S3 => .nx env S3
        | none => .bad)
      | none => .bad)
    | none => .bad) ∧
  (∀ (op : Op2) (fo fi fv : DL.Env → Sto → R D) (env : DL.Env) (S : Sto), sAugI op fo fi fv env S = (fo env S).seq env fun o S1 => (fi env S1).seq env fun i S2 => match getIt o i S2 with
    | some x => (fv env S2).seq env fun y S3 => (match op x y with
      | some z => (match putIt o i z S3 with
        | some S4 => .nx env S4
        | none => .bad)
      | none => .bad)
    | none => .bad) ∧
  (∀ (i j : Int), iAdd (.int i) (.int j) = some (.int (i + j))) ∧
  (∀ (i j : Int), iSub (.int i) (.int j) = some (.int (i - j))) ∧
  (∀ (fo : DL.Env → Sto → R D) (env : DL.Env) (S : Sto), lItems fo env S = (fo env S).bind fun x S1 => match x with
    | .ref n => (match S1[n]? with
      | some (.dK kvs) => .ok (kvs.map itmD) S1
      | _ => .bad)
    | _ => .bad) ∧
  (∀ (fo : DL.Env → Sto → R D) (env : DL.Env) (S : Sto), lSIt fo env S = (fo env S).bind fun x S1 => match x with
    | .ref n => (match S1[n]? with
      | some (.dK kvs) => (R.ofO (iiOf kvs) S1).bind fun ks S2 => if small ks.length then .ok (((ks.map iiK).mergeSort tLe).map tuD) S2 else .bad
      | _ => .bad)
    | _ => .bad) ∧
  (∀ (fs : List (Str × (DL.Env → Sto → R D))) (env : DL.Env) (S : Sto), eDisp fs env S = (dispE fs env (S ++ [.dK []])).bind fun kvs S2 => match S2[S.length]? with
    | some (.dK []) => .ok (.ref S.length) (S2.set S.length (.dK (mergeD [] kvs)))
    | _ => .bad) ∧
  (∀ (env : DL.Env) (S : Sto), dispE [] env S = .ok [] S) ∧
  (∀ (x : Str) (f : DL.Env → Sto → R D) (r : List (Str × (DL.Env → Sto → R D))) (env : DL.Env) (S : Sto), dispE ((x, f) :: r) env S = (f env S).bind fun d S1 => (dispE r env S1).bind fun ds S2 => .ok ((.inr x, d) :: ds) S2) ∧
  (∀ (ys : List Str) (fs : DL.Env → Sto → R (List D)) (env : DL.Env) (S : Sto), eTIx ys fs env S = (fs env S).bind fun xs S1 => match xs with
    | [.str z] => if z ∈ ys then .ok (.int (ys.idxOf z : Nat)) S1 else .bad
    | _ => .bad) ∧
  (∀ (ys : List (Str × Int)) (fe fi : DL.Env → Sto → R D) (env : DL.Env) (S : Sto), eCGet ys fe fi env S = (fe env S).bind fun d S1 => (fi env S1).bind fun z S2 => match d with
    | .str x => .ok (match ys.lookup x with | some i => .int i | none => z) S2
    | _ => .bad) ∧
  (∀ (fl fm : DL.Env → Sto → R LS) (env : DL.Env) (S : Sto), lCat fl fm env S = (fl env S).bind fun x S1 => (fm env S1).bind fun y S2 => (getM x S2).bind fun xs S3 => (getM y S3).bind fun ys S4 => if small (xs.length + ys.length) then .ok (xs ++ ys) S4 else .bad) ∧
  (∀ (fl : DL.Env → Sto → R LS) (fb : DL.Env → Sto → R D) (env : DL.Env) (S : Sto), lRep fl fb env S = (fl env S).bind fun x S1 => (fb env S1).bind fun y S2 => (getM x S2).bind fun xs S3 => match y with
    | .int n => if -(2 ^ 63) ≤ n ∧ n < 2 ^ 63 ∧ xs.length * n.toNat ≤ sizeLine then .ok (List.replicate n.toNat xs).flatten S3 else .bad
    | _ => .bad) ∧
  (∀ (i : Nat) (d : D) (env : DL.Env), aName i d env = some (env.set i (some d))) ∧
  (∀ (n : Nat) (r : Asgs) (xs : List D) (env : DL.Env), aTup n r (.tup xs) env = if xs.length = n then r xs env else none) ∧
  (∀ (env : DL.Env), asNil [] env = some env) ∧
  (∀ (a : Asg) (r : Asgs) (d : D) (ds : List D) (env : DL.Env), asCons a r (d :: ds) env = (a d env).bind fun e => r ds e) ∧
  (∀ (fc : DL.Env → Sto → R Bool) (fa fb : DL.Env → Sto → R D) (env : DL.Env) (S : Sto), eIf fc fa fb env S = (fc env S).bind fun b S1 => match b with
    | true => fa env S1
    | false => fb env S1) ∧
  (∀ (env : DL.Env) (S : Sto), sCt env S = .ct env S) ∧
  (∀ (env : DL.Env) (S : Sto), bT env S = .ok true S) ∧
  (∀ (fo : DL.Env → Sto → R D) (gl : DL.Env → Sto → R LS) (env : DL.Env) (S : Sto), eJoin fo gl env S = (fo env S).bind fun x S1 => if tyD "str" x S1 then (gl env S1).bind fun l S2 => mJoin x l S2 else .bad) :=
  ⟨fun _ _ _ _ _ _ => rfl, fun _ _ _ _ => rfl, fun _ _ _ _ _ => rfl, fun _ _ _ _ => rfl, fun _ _ => rfl, fun _ _ => rfl, fun _ _ => rfl, fun _ _ _ _ _ => rfl, fun _ _ _ _ _ _ _ => rfl, fun _ _ _ _ _ _ => rfl, fun _ _ => rfl, fun _ _ => rfl, fun _ _ _ => rfl, fun _ _ _ => rfl, fun _ _ _ => rfl, fun _ _ => rfl, fun _ _ _ _ _ => rfl, fun _ _ _ _ => rfl, fun _ _ _ _ _ => rfl, fun _ _ _ _ => rfl, fun _ _ _ _ => rfl, fun _ _ _ => rfl, fun _ _ _ _ => rfl, fun _ => rfl, fun _ _ _ _ _ => rfl, fun _ _ _ _ _ => rfl, fun _ _ => rfl, fun _ _ => rfl, fun _ _ _ _ => rfl⟩
/-- items of a tuple that is written there -/
theorem ev8 :
  (∀ (a : D) (r : List D) (S : Sto), dIx (.tup (a :: r)) (.int 0) S = .ok a S) ∧
  (∀ (a b : D) (r : List D) (S : Sto), dIx (.tup (a :: b :: r)) (.int 1) S = .ok b S) ∧
  (∀ (a b c : D) (r : List D) (S : Sto), dIx (.tup (a :: b :: c :: r)) (.int 2) S = .ok c S) ∧
  (∀ (a b c d : D) (r : List D) (S : Sto), dIx (.tup (a :: b :: c :: d :: r)) (.int 3) S = .ok d S) ∧
  (∀ (a b c d e : D) (r : List D) (S : Sto), dIx (.tup (a :: b :: c :: d :: e :: r)) (.int 4) S = .ok e S) ∧
  (∀ (a b c d e f : D) (r : List D) (S : Sto), dIx (.tup (a :: b :: c :: d :: e :: f :: r)) (.int 5) S = .ok f S) := by
  have go : ∀ (xs : List D) (k : Nat) (h : k < xs.length) (S : Sto), dIx (.tup xs) (.int (k : Nat)) S = .ok xs[k] S := fun xs k h S => by
    show R.ofO (L2.atI xs k) S = _
    rw [atI_nat' h]
    rfl
  exact ⟨fun a r S => go _ 0 (by simp) S, fun a b r S => go _ 1 (by simp) S, fun a b c r S => go _ 2 (by simp) S, fun a b c d r S => go _ 3 (by simp) S, fun a b c d e r S => go _ 4 (by simp) S, fun a b c d e f r S => go _ 5 (by simp) S⟩
/-- lists that are written there -/
theorem ev9 :
  (∀ (α : Type) (a : α) (l : List α), (a :: l)[0]? = some a) ∧
  (∀ (α : Type) (a : α) (l : List α) (i : Nat), (a :: l)[i + 1]? = l[i]?) ∧
  (∀ (α : Type) (a b : α) (l : List α), (a :: l).set 0 b = b :: l) ∧
  (∀ (α : Type) (a b : α) (l : List α) (i : Nat), (a :: l).set (i + 1) b = a :: l.set i b) ∧
  (∀ (α : Type) (a : α) (l : List α), (a :: l).length = l.length + 1) ∧
  (∀ (α : Type), ([] : List α).length = 0) ∧
  (∀ (α : Type) (a : α) (S : Sto), R.ofO (some a) S = .ok a S) ∧
  (∀ (i j : Int) (S : Sto), dAdd (.int i) (.int j) S = .ok (.int (i + j)) S) ∧
  (∀ (i j : Int) (S : Sto), dSub (.int i) (.int j) S = .ok (.int (i - j)) S) ∧
  (∀ (i j : Int) (S : Sto), dGt (.int i) (.int j) S = .ok (.bl (decide (j < i))) S) ∧
  (∀ (i j : Int) (S : Sto), dOrd .Lt (.int i) (.int j) S = .ok (.bl (decide (i < j))) S) ∧
  (∀ (i j : Int) (S : Sto), dOrd .LtE (.int i) (.int j) S = .ok (.bl (decide (i ≤ j))) S) ∧
  (∀ (i j : Int) (S : Sto), dOrd .GtE (.int i) (.int j) S = .ok (.bl (decide (j ≤ i))) S) ∧
  (∀ (i j : Int) (S : Sto), dEq (.int i) (.int j) S = .ok (.bl (decide (i = j))) S) ∧
  (∀ (i j : Int) (S : Sto), dNe (.int i) (.int j) S = .ok (.bl (!decide (i = j))) S) ∧
  (∀ (i j : Int) (S : Sto), bMin2 (.int i) (.int j) S = .ok (.int (min i j)) S) ∧
  (∀ (i j : Int) (S : Sto), bMax2 (.int i) (.int j) S = .ok (.int (max i j)) S) ∧
  (small 0 = true ∧ small 1 = true ∧ small 2 = true ∧ small 3 = true ∧ small 4 = true ∧ small 5 = true ∧ small 6 = true ∧ small (0 + 1) = true ∧ small (0 + 1 + 1) = true ∧ small (0 + 1 + 1 + 1) = true ∧ small (0 + 1 + 1 + 1 + 1) = true ∧ small (0 + 1 + 1 + 1 + 1 + 1) = true ∧ small (0 + 1 + 1 + 1 + 1 + 1 + 1) = true) :=
  ⟨fun _ _ _ => rfl, fun _ _ _ _ => rfl, fun _ _ _ _ => rfl, fun _ _ _ _ _ => rfl, fun _ _ _ => rfl, fun _ => rfl, fun _ _ _ => rfl, fun _ _ _ => rfl, fun _ _ _ => rfl, fun _ _ _ => rfl, fun _ _ _ => lt_ok, fun _ _ _ => le_ok, fun _ _ _ => ge_ok, fun _ _ _ => eq_int, fun _ _ _ => ne_int, fun _ _ _ => rfl, fun _ _ _ => rfl,
   ⟨sml (by decide), sml (by decide), sml (by decide), sml (by decide), sml (by decide), sml (by decide), sml (by decide), sml (by decide), sml (by decide), sml (by decide), sml (by decide), sml (by decide), sml (by decide)⟩⟩
theorem ev : type_of% (And.intro ev1 (And.intro ev2 (And.intro ev3 (And.intro ev4 (And.intro ev5 (And.intro ev6 (And.intro ev7 (And.intro ev8 ev9)))))))) := ⟨ev1, ev2, ev3, ev4, ev5, ev6, ev7, ev8, ev9⟩

/-! ### what is kept -/
theorem Px.of {S S' : Sto} (hl : S.length ≤ S'.length) (h : ∀ n, n < S.length → S'[n]? = S[n]?) : Px S S' := by
  refine ⟨S'.drop S.length, ?_⟩
  refine List.ext_getElem? fun n => ?_
  by_cases hn : n < S.length
  · rw [List.getElem?_append_left hn, h n hn]
  · rw [List.getElem?_append_right (by omega), List.getElem?_drop]
    congr 1
    omega
theorem Px.keep {S S' : Sto} (h : Px S S') {n : Nat} (hn : n < S.length) : S'[n]? = S[n]? := by
  obtain ⟨J, rfl⟩ := h
  exact List.getElem?_append_left hn
/-- all but what is owned stays -/
structure Kp (own : Nat → Prop) (S S' : Sto) : Prop where
  len : S.length ≤ S'.length
  kp : ∀ n, n < S.length → ¬ own n → S'[n]? = S[n]?
theorem Kp.refl (own : Nat → Prop) (S : Sto) : Kp own S S := ⟨Nat.le_refl _, fun _ _ _ => rfl⟩
theorem Kp.trans {own own1 : Nat → Prop} {S S1 S2 : Sto} (h : Kp own S S1) (g : ∀ n, own1 n → own n ∨ S.length ≤ n) (h' : Kp own1 S1 S2) : Kp own S S2 :=
  ⟨Nat.le_trans h.len h'.len, fun n hn ho => (h'.kp n (Nat.lt_of_lt_of_le hn h.len) fun z => (g n z).elim ho (by omega)).trans (h.kp n hn ho)⟩
theorem Kp.at {own : Nat → Prop} {S S' : Sto} (h : Kp own S S') {n : Nat} {o : O} (hn : ¬ own n) (e : S[n]? = some o) : S'[n]? = some o := (h.kp n (List.getElem?_eq_some_iff.mp e).1 hn).trans e
theorem Kp.imp {own own' : Nat → Prop} {S S' : Sto} (h : Kp own S S') (q : ∀ n, n < S.length → own n → own' n) : Kp own' S S' := ⟨h.len, fun n hn ho => h.kp n hn fun z => ho (q n hn z)⟩
theorem Px.kp {S S' : Sto} (h : Px S S') (own : Nat → Prop) : Kp own S S' := ⟨h.len, fun n hn _ => h.keep hn⟩

/-! ### objects by their roles -/
structure Lay {ρ : Type} (S : Sto) (a : ρ → Nat) (ob : ρ → Option O) : Prop where
  at_ : ∀ r o, ob r = some o → S[a r]? = some o
  inj : ∀ r r', ob r ≠ none → ob r' ≠ none → a r = a r' → r = r'
def Own {ρ : Type} (a : ρ → Nat) (ob : ρ → Option O) (n : Nat) : Prop := ∃ r, ob r ≠ none ∧ a r = n
section
variable {ρ : Type} [DecidableEq ρ] {S S' : Sto} {a : ρ → Nat} {ob : ρ → Option O}
theorem Lay.lt (L : Lay S a ob) {r : ρ} (h : ob r ≠ none) : a r < S.length := by
  obtain ⟨o, e⟩ := Option.ne_none_iff_exists'.mp h
  exact (List.getElem?_eq_some_iff.mp (L.at_ r o e)).1
theorem Lay.own_lt (L : Lay S a ob) {n : Nat} (h : Own a ob n) : n < S.length := by
  obtain ⟨r, h1, rfl⟩ := h
  exact L.lt h1
theorem Lay.congr {a' : ρ → Nat} {ob' : ρ → Option O} (L : Lay S a ob) (h : ob' = ob) (ha : ∀ r, ob r ≠ none → a' r = a r) : Lay S a' ob' := by
  subst h
  exact ⟨fun r o e => by rw [ha r (by rw [e]; simp)]; exact L.at_ r o e, fun r r' h1 h2 e => L.inj r r' h1 h2 (by rwa [ha r h1, ha r' h2] at e)⟩
theorem Lay.kept (L : Lay S a ob) (h : ∀ n, Own a ob n → S'[n]? = S[n]?) : Lay S' a ob :=
  ⟨fun r o e => (h _ ⟨r, by rw [e]; simp, rfl⟩).trans (L.at_ r o e), L.inj⟩
theorem Lay.px (L : Lay S a ob) (h : Px S S') : Lay S' a ob := L.kept fun n hn => h.keep (L.own_lt hn)
/-- written at r -/
theorem Lay.set (L : Lay S a ob) {r : ρ} (h : ob r ≠ none) (o : O) : Lay (S.set (a r) o) a (fun x => if x = r then some o else ob x) := by
  refine ⟨fun x o' e => ?_, fun x y h1 h2 e => ?_⟩
  · by_cases hx : x = r
    · simp only [hx, if_true, Option.some.injEq] at e
      rw [hx, ← e]
      exact List.getElem?_set_self (L.lt h)
    · simp only [hx, if_false] at e
      have hx2 : ob x ≠ none := by rw [e]; simp
      rw [List.getElem?_set_ne (fun z => hx (L.inj x r hx2 h z.symm))]
      exact L.at_ x o' e
  · refine L.inj x y ?_ ?_ e
    · by_cases hx : x = r
      · rw [hx]; exact h
      · simpa only [hx, if_false] using h1
    · by_cases hy : y = r
      · rw [hy]; exact h
      · simpa only [hy, if_false] using h2
/-- new at r (or r moves to a new place) -/
theorem Lay.new (L : Lay S a ob) (r : ρ) (o : O) : Lay (S ++ [o]) (fun x => if x = r then S.length else a x) (fun x => if x = r then some o else ob x) := by
  refine ⟨fun x o' e => ?_, fun x y h1 h2 e => ?_⟩
  · by_cases hx : x = r
    · simp only [hx, if_true, Option.some.injEq] at e ⊢
      rw [← e]
      exact List.getElem?_concat_length ..
    · simp only [hx, if_false] at e ⊢
      rw [List.getElem?_append_left (L.lt (by rw [e]; simp))]
      exact L.at_ x o' e
  · by_cases hx : x = r
    · by_cases hy : y = r
      · rw [hx, hy]
      · simp only [hx, hy, if_true, if_false] at e h2
        have := L.lt h2
        omega
    · by_cases hy : y = r
      · simp only [hx, hy, if_true, if_false] at e h1
        have := L.lt h1
        omega
      · simp only [hx, hy, if_false] at e h1 h2
        exact L.inj x y h1 h2 e
theorem Lay.nil (S : Sto) (a : ρ → Nat) : Lay S a (fun _ => none) := ⟨fun _ _ e => (nomatch e), fun _ _ h => absurd rfl h⟩
end
end DL

/-! dicts, fields, lists: one step each -/
namespace DL
open PySem PySem.Spec PyProof.Rows L2

section
variable {S : Sto} {n : Nat} {kvs : List (Key × D)} {tvs : List (TKy × D)} {xs : List D} {C : Addr} {fs : List (Str × D)}
theorem keyOf_kD (k : Key) : keyOf (kD k) = some k := by cases k <;> rfl
theorem isD_K (h : S[n]? = some (.dK kvs)) : isDict (.ref n) S = true := by simp [isDict, h]
theorem isD_T (h : S[n]? = some (.dT tvs)) : isDict (.ref n) S = true := by simp [isDict, h]
theorem get2_i {e : Int} {z : D} (h : S[n]? = some (.dK kvs)) : mGet2 (.ref n) (.int e) z S = .ok ((kGet kvs (.inl e)).getD z) S := by simp [mGet2, dLook, h, keyOf]
theorem get2_s {x : Str} {z : D} (h : S[n]? = some (.dK kvs)) : mGet2 (.ref n) (.str x) z S = .ok ((kGet kvs (.inr x)).getD z) S := by simp [mGet2, dLook, h, keyOf]
theorem tkey_t (t : TKy) : tkeyOf (tuD t) = some t := by
  show (t.map kD).mapM keyOf = some t
  exact mapM_some keyOf_kD t
theorem get2_t {t : TKy} {z : D} (h : S[n]? = some (.dT tvs)) : mGet2 (.ref n) (tuD t) z S = .ok ((kGet tvs t).getD z) S := by simp [mGet2, dLook, h, tkey_t]
theorem ix_Ki {e : Int} {d : D} (h : S[n]? = some (.dK kvs)) (g : kGet kvs (.inl e) = some d) : dIx (.ref n) (.int e) S = .ok d S := by simp [dIx, dLook, h, keyOf, g]
theorem ix_Ks {x : Str} {d : D} (h : S[n]? = some (.dK kvs)) (g : kGet kvs (.inr x) = some d) : dIx (.ref n) (.str x) S = .ok d S := by simp [dIx, dLook, h, keyOf, g]
theorem ix_Fi {e : Int} {d : D} (h : S[n]? = some (.fK kvs)) (g : kGet kvs (.inl e) = some d) : dIx (.ref n) (.int e) S = .ok d S := by simp [dIx, dLook, h, keyOf, g]
theorem ix_Fs {x : Str} {d : D} (h : S[n]? = some (.fK kvs)) (g : kGet kvs (.inr x) = some d) : dIx (.ref n) (.str x) S = .ok d S := by simp [dIx, dLook, h, keyOf, g]
theorem in_Ks {x : Str} (h : S[n]? = some (.dK kvs)) : dIn (.str x) (.ref n) S = .ok (.bl (kGet kvs (.inr x)).isSome) S := by simp [dIn, dInB, dLook, h, keyOf, ofB]
theorem nin_Ks {x : Str} (h : S[n]? = some (.dK kvs)) : dNin (.str x) (.ref n) S = .ok (.bl (!(kGet kvs (.inr x)).isSome)) S := by simp [dNin, dInB, dLook, h, keyOf, ofB]
theorem put_Ki {e : Int} {v : D} (h : S[n]? = some (.dK kvs)) (hl : kvs.length + 1 ≤ 1000000) : putIt (.ref n) (.int e) v S = some (S.set n (.dK (kPut kvs (.inl e) v))) := by simp [putIt, h, keyOf, sml hl]
theorem put_Ks {x : Str} {v : D} (h : S[n]? = some (.dK kvs)) (hl : kvs.length + 1 ≤ 1000000) : putIt (.ref n) (.str x) v S = some (S.set n (.dK (kPut kvs (.inr x) v))) := by simp [putIt, h, keyOf, sml hl]
theorem put_T {t : TKy} {v : D} (h : S[n]? = some (.dT tvs)) (hl : tvs.length + 1 ≤ 1000000) : putIt (.ref n) (tuD t) v S = some (S.set n (.dT (kPut tvs t v))) := by simp [putIt, h, tkey_t, sml hl]
theorem pop_Ki {e : Int} {d : D} (h : S[n]? = some (.dK kvs)) (g : kGet kvs (.inl e) = some d) : mDPop (.ref n) (.int e) S = .ok d (S.set n (.dK (kDrop kvs (.inl e)))) := by simp [mDPop, h, keyOf, g]
theorem getF_at {f : Str} (h : S[n]? = some (.ins C fs)) : getF' C f (.ref n) S = fs.lookup f := by simp [getF', h]
theorem putF_at {f : Str} {v : D} (h : S[n]? = some (.ins C fs)) (hl : fs.length < 1000) : putF' C f (.ref n) v S = some (S.set n (.ins C (putN f v fs))) := by simp [putF', h, hl]
theorem tyD_K (h : S[n]? = some (.dK kvs)) : tyD "dict" (.ref n) S = true := by simp [tyD, h]
theorem upd_K {m : Nat} {more : List (Key × D)} (h : S[n]? = some (.dK kvs)) (h2 : S[m]? = some (.dK more)) (ne : n ≠ m) (hl : kvs.length + more.length ≤ 1000000) : mUpdate (.ref n) [.ref m] S = .ok .non (S.set n (.dK (mergeD kvs more))) := by simp [mUpdate, h, h2, ne, sml hl]
theorem set_at {o : O} (h : S[n]? = some o) (o' : O) : (S.set n o')[n]? = some o' := List.getElem?_set_self (List.getElem?_eq_some_iff.mp h).1
theorem set_off {m : Nat} {o' : O} (h : m ≠ n) : (S.set n o')[m]? = S[m]? := List.getElem?_set_ne (Ne.symm h)
theorem set_id {o : O} (h : S[n]? = some o) : S.set n o = S := by
  obtain ⟨hl, e⟩ := List.getElem?_eq_some_iff.mp h
  rw [← e, List.set_getElem_self]
theorem snoc_at {o o' : O} {m : Nat} (h : S[m]? = some o) : (S ++ [o'])[m]? = some o := (Px.snoc S o').at h
theorem meth_at {m : Str} (h : S[n]? = some (.ins C fs)) (hm : fs.lookup m = none) (k : Nat) (g : Fn) (fo : DL.Env → Sto → R D) (fa : DL.Env → Sto → R (List D)) (env : DL.Env) (S0 : Sto) (ho : fo env S0 = .ok (.ref n) S) : eMeth C m k g fo fa env S0 = (fa env S).bind fun xs S2 => if xs.length + 1 = k then g (.ref n :: xs) S2 else .bad := by
  unfold eMeth
  rw [ho]
  simp [R.bind, h, hm]
/-- a walk of a dict, locked -/
theorem eLock_K {α : Type} {loc : DL.Env → Sto → Option Nat} {f : DL.Env → Sto → R α} {env : DL.Env} {a : α} (hl : loc env S = some n) (h : S[n]? = some (.dK kvs)) (hf : f env (S.set n (.fK kvs)) = .ok a (S.set n (.fK kvs))) : eLock loc f env S = .ok a S := by
  have h2 : (S.set n (.fK kvs))[n]? = some (.fK kvs) := set_at h _
  simp only [eLock, hl, h, lockO, hf, openS, h2, openO, List.set_set]
  rw [set_id h]
end

/-- a comprehension without a test, where nothing changes -/
theorem comp_all {α : Type} {asg : Asg} {fe : DL.Env → Sto → R D} {g : Sto → Prop} {env : DL.Env} {S : Sto} (hg : g S) (emb : α → D) (f : α → D) (l : List α) (h : ∀ a ∈ l, ∃ e1, asg (emb a) env = some e1 ∧ fe e1 S = .ok (f a) S) : fComp asg bT fe g env (l.map emb) S = .ok (l.map f) S := by
  have := comp_pure (asg := asg) (ft := bT) (fe := fe) (g := g) (env := env) (S := S) hg emb (fun _ => true) f l fun a ma => by
    obtain ⟨e1, h1, h2⟩ := h a ma
    exact ⟨e1, h1, rfl, fun _ => h2⟩
  rw [this, List.filter_eq_self.mpr (fun _ _ => rfl)]

/-- for, by what is left to go through -/
theorem W_forL {α : Type} {asg : Asg} {body : DL.Env → Sto → RS} {g : Sto → Prop} {N : DL.Env → Sto → Prop} {T : D → Sto → Prop} (emb : α → D) (Inv : List α → DL.Env → Sto → Prop) (hg : ∀ l env S, Inv l env S → g S)
    (step : ∀ x r env S, Inv (x :: r) env S → ∃ e1, asg (emb x) env = some e1 ∧ (body e1 S).W (Inv r) T) (hN : ∀ env S, Inv [] env S → N env S) : ∀ (l : List α) (env : DL.Env) (S : Sto), Inv l env S → (fFor asg body g (l.map emb) env S).W N T
  | [], env, S, h => by
    simp only [List.map_nil, fFor]
    rw [if_pos (hg _ _ _ h)]
    exact hN env S h
  | x :: r, env, S, h => by
    simp only [List.map_cons, fFor]
    rw [if_pos (hg _ _ _ h)]
    obtain ⟨e1, ea, hb⟩ := step x r env S h
    rw [ea]
    simp only
    cases q : body e1 S with
    | nx e2 S2 => rw [q] at hb; exact W_forL emb Inv hg step hN r e2 S2 hb
    | rt d S2 => rw [q] at hb; exact hb
    | bk e2 S2 => rw [q] at hb; exact hb.elim
    | ct e2 S2 => rw [q] at hb; exact hb.elim
    | err x e2 S2 => rw [q] at hb; exact hb.elim
    | bad => rw [q] at hb; exact hb.elim
theorem lotD_eq (x : Int × Int) : lotD x = .tup [.int x.1, .int x.2] := rfl

/-! ### purses -/
def puF (e : Nat) (d : Int) : List (Str × D) := [("ends", .ref e), ("debt", .int d)]
theorem puF_l : (∀ e d, (puF e d).lookup ("ends" : Str) = some (.ref e)) ∧ (∀ e d, (puF e d).lookup ("debt" : Str) = some (.int d)) ∧ (∀ e d v, putN "debt" (.int v) (puF e d) = puF e v) ∧ (∀ e d, (puF e d).lookup ("lots" : Str) = none ∧ (puF e d).lookup ("has" : Str) = none ∧ (puF e d).lookup ("owes" : Str) = none ∧ (puF e d).lookup ("gain" : Str) = none ∧ (puF e d).lookup ("put_out" : Str) = none ∧ (puF e d).lookup ("pay" : Str) = none ∧ (puF e d).lookup ("take_back" : Str) = none ∧ (puF e d).lookup ("end_at" : Str) = none) ∧ (∀ e d, (puF e d).length < 1000) :=
  ⟨fun _ _ => rfl, fun _ _ => rfl, fun _ _ _ => rfl, fun _ _ => ⟨rfl, rfl, rfl, rfl, rfl, rfl, rfl, rfl⟩, fun _ _ => by show 2 < 1000; decide⟩
structure PuAt (C : Addr) (S : Sto) (u e : Nat) (k : Lots) (p : Pu) : Prop where
  ob : S[u]? = some (.ins C (puF e p.debt))
  di : S[e]? = some (.dK (k.map entI))
  pm : k.Perm p.lots
  ok : p.Ok
  few : p.lots.length ≤ 5000
section
variable {C : Addr} {S S' : Sto} {u e : Nat} {k : Lots} {p : Pu}
theorem PuAt.ne (h : PuAt C S u e k p) : u ≠ e := fun z => by
  have := h.ob
  rw [z, h.di] at this
  cases this
theorem PuAt.kept (h : PuAt C S u e k p) (h1 : S'[u]? = S[u]?) (h2 : S'[e]? = S[e]?) : PuAt C S' u e k p := ⟨h1.trans h.ob, h2.trans h.di, h.pm, h.ok, h.few⟩
theorem PuAt.px (h : PuAt C S u e k p) (x : Px S S') : PuAt C S' u e k p := ⟨x.at h.ob, x.at h.di, h.pm, h.ok, h.few⟩
theorem PuAt.klen (h : PuAt C S u e k p) : k.length ≤ 5000 := by rw [h.pm.length_eq]; exact h.few
theorem PuAt.nodup (h : PuAt C S u e k p) : (k.map (·.1)).Nodup := (h.pm.map (·.1)).nodup_iff.mpr h.ok.srt.nodup
theorem lots_ok (h : PuAt C S u e k p) : g_Purse_lots C [.ref u] S = .ok (.ref S.length) (S ++ [.lst (p.lots.map lotD)]) := by
  have so : bSort (.tm ((k.map entI).map itmD)) S = .ok ((p.lots.map iiK).map tuD) S := by
    have e1 : (k.map entI).map itmD = (k.map iiK).map tuD := by simp only [List.map_map]; rfl
    rw [e1, bSort_t (ts := k.map iiK) _ rfl (fun x hx y hy => by
      obtain ⟨a, _, rfl⟩ := List.mem_map.mp hx
      obtain ⟨b, _, rfl⟩ := List.mem_map.mp hy
      rfl) (fun x hx => by
      obtain ⟨a, _, rfl⟩ := List.mem_map.mp hx
      exact fun z => (nomatch z)) (by rw [List.length_map, sizeLine_eq]; have := h.klen; omega), srt_items h.pm h.ok.srt]
  unfold g_Purse_lots gOf
  show retOf (b_Purse_lots C [some (.ref u)] S) = _
  simp only [b_Purse_lots, ev, getF_at h.ob, puF_l, h.di, R.bind, R.ofO, RS.bind, R.seq, so]
  simp only [retOf, List.map_map]
  rfl
theorem has_ok (h : PuAt C S u e k p) : g_Purse_has C [.ref u] S = .ok (.int p.has) S := by
  have ne := h.ne
  have hu : (S.set e (.fK (k.map entI)))[u]? = some (.ins C (puF e p.debt)) := (set_off ne).trans h.ob
  have he : (S.set e (.fK (k.map entI)))[e]? = some (.fK (k.map entI)) := set_at h.di _
  have lk : eLock (lockF 0 "ends") (lComp (fun env S => ((eFld C "ends" (eVar 0)) env S).bind gIt) (aName 1) [1] bT (eBin dIx (eFld C "ends" (eVar 0)) (eVar 1))) [some (.ref u), none] S = .ok (k.map fun x => .int x.2) S := by
    refine eLock_K (n := e) (kvs := k.map entI) ?_ h.di ?_
    · simp only [lockF, List.getElem?_cons_zero, h.ob, puF_l]
    · have cp := comp_all (asg := aName 1) (fe := eBin dIx (eFld C "ends" (eVar 0)) (eVar 1)) (g := fun S => S[e]? = some (.fK (k.map entI))) (env := [some (.ref u), none]) (S := S.set e (.fK (k.map entI))) he (fun x : Int × Int => D.int x.1) (fun x => .int x.2) k fun x mx => ⟨_, rfl, by
        have kg : kGet (k.map entI) (.inl x.1) = some (.int x.2) := by rw [kGet_ii, lookup_of_mem h.nodup (by exact mx)]; rfl
        simp only [ev, getF_at hu, puF_l, R.bind, ix_Fi he kg]⟩
      have e1 : (k.map entI).map (fun p => kD p.1) = k.map fun x => D.int x.1 := by simp only [List.map_map]; rfl
      simp only [ev, getF_at hu, puF_l, R.bind, gIt, he, e1, List.length_map, sml (show k.length ≤ 1000000 by have := h.klen; omega), if_true, wipeE, cp]
  have is : intsOf (k.map fun x => .int x.2) = some (k.map (·.2)) := by
    have : ∀ l : Lots, intsOf (l.map fun x => .int x.2) = some (l.map (·.2)) := fun l => by
      induction l with
      | nil => rfl
      | cons x r ih => show (intsOf (r.map _)).map _ = _; rw [ih]; rfl
    exact this k
  unfold g_Purse_has gOf
  show retOf (b_Purse_has C [some (.ref u), none] S) = _
  unfold b_Purse_has
  generalize eLock (lockF 0 "ends") _ = f at lk ⊢
  simp only [ev, lk, R.bind, bSum, getB, getA, is, R.ofO, R.seq, retOf]
  congr 2
  exact sumL_perm h.pm
theorem owes_ok (h : PuAt C S u e k p) : g_Purse_owes C [.ref u] S = .ok (.int p.debt) S := by
  unfold g_Purse_owes gOf
  show retOf (b_Purse_owes C [some (.ref u)] S) = _
  simp only [b_Purse_owes, ev, getF_at h.ob, puF_l, R.bind, R.seq, retOf]
theorem len_ok' (h : PuAt C S u e k p) : g_Purse_dlen C [.ref u] S = .ok (.int p.lots.length) S := by
  unfold g_Purse_dlen gOf
  show retOf (b_Purse_dlen C [some (.ref u)] S) = _
  simp only [b_Purse_dlen, ev, getF_at h.ob, puF_l, R.bind, bLen, h.di, R.seq, retOf, List.length_map, h.pm.length_eq]
end
end DL

namespace K03
open PySem PySem.Spec PyProof.Rows L2 DL
/-! ### the program by its places -/
def top (i : Nat) : Stmt := PySem.Challenge.pw_clothrail_k03_where_tables_part.main.body.getD i (.Pass ⟨0, 0, 0, 0⟩)
abbrev s_is_within : Stmt := top 9
abbrev s_is_name : Stmt := top 10
abbrev s_is_entry : Stmt := top 11
abbrev s_is_table : Stmt := top 12
abbrev s_need_table : Stmt := top 13
abbrev s_points_in : Stmt := top 14
abbrev s_points_at : Stmt := top 15
abbrev s_parting : Stmt := top 16
abbrev s_law_draw : Stmt := top 18
abbrev s_law_is_name : Stmt := top 19
abbrev s_law_within : Stmt := top 20
abbrev s_law_is_table : Stmt := top 21
abbrev s_law_table : Stmt := top 22
abbrev s_law_draws : Stmt := top 23
abbrev s_law_names : Stmt := top 24
abbrev s_law_points : Stmt := top 25
abbrev s_law_other : Stmt := top 26
abbrev s_law : Stmt := top 27
abbrev n_points_at : List Str := ["table", "sort", "hour"]
noncomputable def b_points_at : DL.Env → Sto → RS :=
  (sSeq (sExp (eCall 1 g_need_table (aCons (eVar 0) aNil)))
  (sRet (eCall 3 g_points_in (aCons (eVar 0) (aCons (eVar 1) (aCons (eVar 2) aNil))))))
noncomputable def g_points_at : Fn := gOf n_points_at (b_points_at)
abbrev n_law_is_name : List Str := ["thing", "sign"]
noncomputable def b_law_is_name : DL.Env → Sto → RS :=
  (sSeq (sIf (bOr (bNot (eTru (fun env S => ((eVar 0) env S).bind (bIsi "str")))) (bOr (eTst (eBin (dOrd .Lt) (eB1 (sRf (eVar 0)) bLen) (eC (.int 1)))) (eTst (eBin dGt (eB1 (sRf (eVar 0)) bLen) (eC (.int 8)))))) (sRet (eC (.bl false))) sNx)
  (sRet (eBin dEq (eNew (lComp (fun env S => ((eVar 0) env S).bind gIt) (aName 1) [1] (eTst (eBin dNin (eVar 1) (eC (.str "abcdefghijklmnopqrstuvwxyz")))) (eVar 1))) (eNew (lLst aNil)))))
noncomputable def g_law_is_name : Fn := gOf n_law_is_name (b_law_is_name)
abbrev n_law_within : List Str := ["thing", "low", "high"]
noncomputable def b_law_within : DL.Env → Sto → RS :=
  (sRet (eAnd (fun env S => ((eVar 0) env S).bind (bIsi "int")) (eAnd (eNot (fun env S => ((eVar 0) env S).bind (bIsi "bool"))) (eAnd (eBin (dOrd .LtE) (eVar 1) (eVar 0)) (eBin (dOrd .LtE) (eVar 0) (eVar 2))))))
noncomputable def g_law_within : Fn := gOf n_law_within (b_law_within)
abbrev n_law_is_table : List Str := ["thing", "entry", "keys"]
noncomputable def b_law_is_table : DL.Env → Sto → RS :=
  (sSeq (sIf (bOr (bNot (eTru (fun env S => ((eVar 0) env S).bind (bIsi "tuple")))) (bOr (eTst (eBin (dOrd .Lt) (eB1 (sRf (eVar 0)) bLen) (eC (.int 1)))) (eTst (eBin dGt (eB1 (sRf (eVar 0)) bLen) (eC (.int 30)))))) (sRet (eC (.bl false))) sNx)
  (sSeq (sFor (fun env S => ((eVar 0) env S).bind gIt) (aName 1) (sSeq (sIf (bOr (bNot (eTru (fun env S => ((eVar 1) env S).bind (bIsi "tuple")))) (bOr (eTst (eBin dNe (eB1 (sRf (eVar 1)) bLen) (eC (.int 3)))) (bNot (eTru (eCall 1 g_law_is_name (aCons (eBin dIx (eVar 1) (eC (.int 0))) aNil)))))) (sRet (eC (.bl false))) sNx)
  (sIf (bOr (bNot (eTru (eCall 3 g_law_within (aCons (eBin dIx (eVar 1) (eC (.int 1))) (aCons (eC (.int 0)) (aCons (eBin dPow (eC (.int 10)) (eC (.int 9))) aNil)))))) (bNot (eTru (eCall 3 g_law_within (aCons (eBin dIx (eVar 1) (eC (.int 2))) (aCons (eC (.int 0)) (aCons (eBin dPow (eC (.int 10)) (eC (.int 6))) aNil))))))) (sRet (eC (.bl false))) sNx)))
  (sSeq (sNew 2 (lComp (fun env S => ((eVar 0) env S).bind gIt) (aName 1) [1] bT (eSl (eVar 1) eNo (eSo (eC (.int 2))))))
  (sRet (eBin dEq (eVar 2) (eNew (eB1 (sRf (eVar 2)) bSortSet)))))))
noncomputable def g_law_is_table : Fn := gOf n_law_is_table (b_law_is_table)
abbrev n_law_other : List Str := ["draws", "table", "sorts", "found", "turn", "at", "way", "later"]
noncomputable def b_law_other : DL.Env → Sto → RS :=
  (sSeq (sNew 3 (eB1 (sRf (eVar 1)) bList))
  (sSeq (sFor (iRg1 (eBin dAdd (eC (.int 1)) (eCall 2 g_law_draw (aCons (eVar 0) (aCons (eC (.int 2)) aNil))))) (aName 4) (sSeq (sSet 5 (eCall 2 g_law_draw (aCons (eVar 0) (aCons (eB1 (sRf (eVar 3)) bLen) aNil))))
  (sSeq (sSet 6 (eCall 2 g_law_draw (aCons (eVar 0) (aCons (eC (.int 5)) aNil))))
  (sIf (bAnd (eTst (eBin dEq (eVar 6) (eC (.int 0)))) (eTst (eBin dGt (eB1 (sRf (eVar 3)) bLen) (eC (.int 1))))) (sExp (eBm "list" (eVar 3) (aCons (eVar 5) aNil) mPop)) (sIf (eTst (eBin dEq (eVar 6) (eC (.int 1)))) (sPut (eVar 3) (eVar 5) (eBin dAdd (eSl (eBin dIx (eVar 3) (eVar 5)) eNo (eSo (eC (.int 2)))) (eTup (aCons (eBin dAdd (eBin dIx (eBin dIx (eVar 3) (eVar 5)) (eC (.int 2))) (eC (.int 1))) aNil)))) (sIf (eTst (eBin dEq (eVar 6) (eC (.int 2)))) (sPut (eVar 3) (eVar 5) (eTup (aCons (eBin dIx (eBin dIx (eVar 3) (eVar 5)) (eC (.int 0))) (aCons (eB (aCons (eC (.int 0)) (aCons (eBin dSub (eBin dIx (eBin dIx (eVar 3) (eVar 5)) (eC (.int 1))) (eC (.int 1))) aNil)) (g2 bMax2)) (aCons (eBin dIx (eBin dIx (eVar 3) (eVar 5)) (eC (.int 2))) aNil))))) (sIf (eTst (eBin dEq (eVar 6) (eC (.int 3)))) (sSeq (sSet 7 (eBin dAdd (eBin dAdd (eBin dIx (eBin dIx (eVar 3) (eVar 5)) (eC (.int 1))) (eC (.int 1))) (eCall 2 g_law_draw (aCons (eVar 0) (aCons (eC (.int 9)) aNil)))))
  (sExp (eBm "list" (eVar 3) (aCons (eTup (aCons (eBin dIx (eBin dIx (eVar 3) (eVar 5)) (eC (.int 0))) (aCons (eVar 7) (aCons (eBin dIx (eBin dIx (eVar 3) (eVar 5)) (eC (.int 2))) aNil)))) aNil) mAppend))) (sPut (eVar 3) (eVar 5) (eBin dAdd (eTup (aCons (eBin dIx (eVar 2) (eCall 2 g_law_draw (aCons (eVar 0) (aCons (eC (.int 3)) aNil)))) aNil)) (eSl (eBin dIx (eVar 3) (eVar 5)) (eSo (eC (.int 1))) eNo))))))))))
  (sSeq (sSet 3 (eB1 (sTm (eB1 (sRf (eVar 3)) bSort)) bTuple))
  (sRet (eIf (eTru (eCall 1 g_law_is_table (aCons (eVar 3) aNil))) (eVar 3) (eCall 2 g_law_table (aCons (eVar 0) (aCons (eVar 2) aNil))))))))
noncomputable def g_law_other : Fn := gOf n_law_other (b_law_other)
abbrev n_law : List Str := ["script", "k", "draws", "sorts", "one", "other", "due", "sort", "hour", "points", "name", "found"]
noncomputable def b_law : DL.Env → Sto → RS :=
  (sSeq (sFor (iRg1 (eB (aCons (eC (.int 1)) (aCons (eB (aCons (eC (.int 30)) (aCons (eB1 (sRf (eVar 0)) bLen) aNil)) (g2 bMin2)) aNil)) (g2 bMax2))) (aName 1) (sSeq (sSet 2 (eCall 2 g_law_draws (aCons (eVar 0) (aCons (eVar 1) aNil))))
  (sSeq (sSet 3 (eCall 2 g_law_names (aCons (eVar 2) (aCons (eC (.int 3)) aNil))))
  (sSeq (sSet 4 (eCall 2 g_law_table (aCons (eVar 2) (aCons (eVar 3) aNil))))
  (sSeq (sSet 5 (eCall 3 g_law_other (aCons (eVar 2) (aCons (eVar 4) (aCons (eVar 3) aNil)))))
  (sSeq (sNew 6 (lLst aNil))
  (sSeq (sFor (fun env S => ((eBin dAdd (eVar 4) (eVar 5)) env S).bind gIt) (aTup 3 (asCons (aName 7) (asCons (aName 8) (asCons (aName 9) asNil)))) (sFor (fun env S => ((eVar 3) env S).bind gIt) (aName 10) (sIf (eTst (eBin dNe (eCall 3 g_law_points (aCons (eVar 4) (aCons (eVar 10) (aCons (eVar 8) aNil)))) (eCall 3 g_law_points (aCons (eVar 5) (aCons (eVar 10) (aCons (eVar 8) aNil)))))) (sExp (eBm "list" (eVar 6) (aCons (eTup (aCons (eVar 8) (aCons (eVar 10) aNil))) aNil) mAppend)) sNx)))
  (sSeq (sSet 11 (eCall 2 g_parting (aCons (eVar 4) (aCons (eVar 5) aNil))))
  (sSeq (sIf (bOr (eTst (eBin dNe (eVar 11) (eIf (eTst (eBin dNe (eVar 6) (eNew (lLst aNil)))) (eB1 (sRf (eVar 6)) bMinT) (eC .non)))) (bOr (eTst (eBin dNe (eCall 2 g_parting (aCons (eVar 5) (aCons (eVar 4) aNil))) (eVar 11))) (eTst (eBin dNotN (eCall 2 g_parting (aCons (eVar 4) (aCons (eVar 4) aNil))) (eC .non))))) (sRet (eC (.bl false))) sNx)
  (sIf (eTst (eBin dNotN (eVar 11) (eC .non))) (sSeq (sAsg (aTup 2 (asCons (aName 8) (asCons (aName 7) asNil))) (eVar 11))
  (sSeq (sIf (eTst (eBin dEq (eCall 3 g_points_at (aCons (eVar 4) (aCons (eVar 7) (aCons (eVar 8) aNil)))) (eCall 3 g_points_at (aCons (eVar 5) (aCons (eVar 7) (aCons (eVar 8) aNil)))))) (sRet (eC (.bl false))) sNx)
  (sIf (eTst (eBin dNe (eNew (lComp (fun env S => ((eVar 3) env S).bind gIt) (aName 10) [10] (eTst (eBin dNe (eCall 3 g_points_at (aCons (eVar 4) (aCons (eVar 10) (aCons (eBin dSub (eVar 8) (eC (.int 1))) aNil)))) (eCall 3 g_points_at (aCons (eVar 5) (aCons (eVar 10) (aCons (eBin dSub (eVar 8) (eC (.int 1))) aNil)))))) (eVar 10))) (eNew (lLst aNil)))) (sRet (eC (.bl false))) sNx))) sNx))))))))))
  (sRet (eC (.bl true))))
noncomputable def g_law : Fn := gOf n_law (b_law)
structure Txt (M : Mod) : Prop where
  d_is_within : DefT M "is_within" s_is_within ["thing", "low", "high"]
  d_is_name : DefT M "is_name" s_is_name ["thing"]
  d_is_entry : DefT M "is_entry" s_is_entry ["thing"]
  d_is_table : DefT M "is_table" s_is_table ["thing"]
  d_need_table : DefT M "need_table" s_need_table ["table"]
  d_points_in : DefT M "points_in" s_points_in ["table", "sort", "hour"]
  d_points_at : DefT M "points_at" s_points_at ["table", "sort", "hour"]
  d_parting : DefT M "parting" s_parting ["one", "other"]
  d_law_draw : DefT M "_law_draw" s_law_draw ["draws", "many"]
  d_law_is_name : DefT M "_law_is_name" s_law_is_name ["thing"]
  d_law_within : DefT M "_law_within" s_law_within ["thing", "low", "high"]
  d_law_is_table : DefT M "_law_is_table" s_law_is_table ["thing"]
  d_law_table : DefT M "_law_table" s_law_table ["draws", "sorts"]
  d_law_draws : DefT M "_law_draws" s_law_draws ["script", "k"]
  d_law_names : DefT M "_law_names" s_law_names ["draws", "many"]
  d_law_points : DefT M "_law_points" s_law_points ["table", "sort", "hour"]
  d_law_other : DefT M "_law_other" s_law_other ["draws", "table", "sorts"]
  z_all : M.mg "all" = none
  z_bool : M.mg "bool" = none
  z_int : M.mg "int" = none
  z_isinstance : M.mg "isinstance" = none
  z_len : M.mg "len" = none
  z_list : M.mg "list" = none
  z_max : M.mg "max" = none
  z_min : M.mg "min" = none
  z_range : M.mg "range" = none
  z_set : M.mg "set" = none
  z_sorted : M.mg "sorted" = none
  z_str : M.mg "str" = none
  z_tuple : M.mg "tuple" = none
  g_LETTERS : ∃ u, M.mg "LETTERS" = some u ∧ RelV (.str "abcdefghijklmnopqrstuvwxyz") u
  g_MOST_ENTRIES : ∃ u, M.mg "MOST_ENTRIES" = some u ∧ RelV (.int 30) u
  g_MOST_HOUR : ∃ u, M.mg "MOST_HOUR" = some u ∧ RelV (.int 1000000000) u
  g_MOST_POINTS : ∃ u, M.mg "MOST_POINTS" = some u ∧ RelV (.int 1000000) u
  e_NoTable : RsT M "NoTable"
section
variable {M : Mod}
theorem ok_is_within (T : Txt M) : Cl M 1 "is_within" 3 (g_is_within) :=
  cl_mk (k := 0) (vis := [0, 1, 2]) (loc := [0, 1, 2]) (gls := ["isinstance", "int", "bool"]) T.d_is_within (N := n_is_within) (ps := ["thing", "low", "high"]) ⟨rfl, rfl, rfl, by decide +kernel, rfl, by decide +kernel, by decide +kernel⟩ rfl (by decide +kernel) fun X W md c hs =>
  (dss_one (ds_ret (de_and (de_isi c (de_var c 0) (md.no T.z_isinstance) (md.no T.z_int) (by decide +kernel)) (de_and (de_not (de_isi c (de_var c 0) (md.no T.z_isinstance) (md.no T.z_bool) (by decide +kernel))) (de_one (de_chain (cd_ord c) (cd_ord c) (de_var c 1) (de_var c 0) (de_var c 2)))))))
theorem ok_is_name (T : Txt M) : Cl M 1 "is_name" 1 (g_is_name) :=
  cl_mk (k := 0) (vis := [0]) (loc := [0]) (gls := ["isinstance", "str", "len", "all"]) T.d_is_name (N := n_is_name) (ps := ["thing"]) ⟨rfl, rfl, rfl, by decide +kernel, rfl, by decide +kernel, by decide +kernel⟩ rfl (by decide +kernel) fun X W md c hs =>
  (dss_one (ds_ret (de_and (de_isi c (de_var c 0) (md.no T.z_isinstance) (md.no T.z_str) (by decide +kernel)) (de_and (de_chain (cd_ord c) (cd_ord c) de_int (de_len c (dm_rf (de_var c 0)) (md.no T.z_len)) de_int) (de_one (de_all c (dm_tm (dl_comp c [1] [1] ["LETTERS"] [("sign", 1)] (di_of (de_var c 0)) (by rw [hs]; exact blkOk_by (by decide +kernel)) (by decide +kernel) (by decide +kernel) (fun X1 sm1 c1 => (dg_name c1 1)) (fun X1 sm1 c1 => dts_nil) (fun X1 sm1 c1 => (de_cmp (cd_in c1) (de_var c1 1) (de_globX c1 (md.to sm1) (.str "abcdefghijklmnopqrstuvwxyz") T.g_LETTERS))))) (md.no T.z_all)))))))
theorem ok_is_entry (T : Txt M) : Cl M 2 "is_entry" 1 (g_is_entry) :=
  cl_mk (k := 1) (vis := [0]) (loc := [0]) (gls := ["isinstance", "tuple", "len", "is_name", "is_within", "MOST_HOUR", "MOST_POINTS"]) T.d_is_entry (N := n_is_entry) (ps := ["thing"]) ⟨rfl, rfl, rfl, by decide +kernel, rfl, by decide +kernel, by decide +kernel⟩ rfl (by decide +kernel) fun X W md c hs =>
  (dss_cons (ds_if (dt_bool (dw_or (dt_not (dt_truth (de_isi c (de_var c 0) (md.no T.z_isinstance) (md.no T.z_tuple) (by decide +kernel)))) (dw_one (dt_cmp (cd_ne c) (de_len c (dm_rf (de_var c 0)) (md.no T.z_len)) de_int)))) (dss_one (ds_ret de_bl)) dss_nil)
  (dss_one (ds_ret (de_and (de_call c md (ok_is_name T) (by decide) (da_cons (de_ix c (de_var c 0) de_int) da_nil)) (de_and (de_call c md (ok_is_within T) (by decide) (da_cons (de_ix c (de_var c 0) de_int) (da_cons de_int (da_cons (de_globX c md (.int 1000000000) T.g_MOST_HOUR) da_nil)))) (de_one (de_call c md (ok_is_within T) (by decide) (da_cons (de_ix c (de_var c 0) de_int) (da_cons de_int (da_cons (de_globX c md (.int 1000000) T.g_MOST_POINTS) da_nil))))))))))
theorem ok_is_table (T : Txt M) : Cl M 3 "is_table" 1 (g_is_table) :=
  cl_mk (k := 2) (vis := [0]) (loc := [0]) (gls := ["isinstance", "tuple", "len", "MOST_ENTRIES", "all", "range"]) T.d_is_table (N := n_is_table) (ps := ["thing"]) ⟨rfl, rfl, rfl, by decide +kernel, rfl, by decide +kernel, by decide +kernel⟩ rfl (by decide +kernel) fun X W md c hs =>
  (dss_cons (ds_if (dt_bool (dw_or (dt_not (dt_truth (de_isi c (de_var c 0) (md.no T.z_isinstance) (md.no T.z_tuple) (by decide +kernel)))) (dw_one (dt_not (dt_chain (cd_ord c) (cd_ord c) de_int (de_len c (dm_rf (de_var c 0)) (md.no T.z_len)) (de_globX c md (.int 30) T.g_MOST_ENTRIES)))))) (dss_one (ds_ret de_bl)) dss_nil)
  (dss_cons (ds_if (dt_not (dt_truth (de_all c (dm_tm (dl_comp c [1] [1] ["is_entry"] [("entry", 1)] (di_of (de_var c 0)) (by rw [hs]; exact blkOk_by (by decide +kernel)) (by decide +kernel) (by decide +kernel) (fun X1 sm1 c1 => (dg_name c1 1)) (fun X1 sm1 c1 => dts_nil) (fun X1 sm1 c1 => (de_call c1 (md.to sm1) (ok_is_entry T) (by decide) (da_cons (de_var c1 1) da_nil))))) (md.no T.z_all)))) (dss_one (ds_ret de_bl)) dss_nil)
  (dss_one (ds_ret (de_all c (dm_tm (dl_comp c [2, 0] [2] [] [("k", 2)] (di_rg2 c (md.no T.z_range) de_int (de_len c (dm_rf (de_var c 0)) (md.no T.z_len))) (by rw [hs]; exact blkOk_by (by decide +kernel)) (by decide +kernel) (by decide +kernel) (fun X2 sm2 c2 => (dg_name c2 2)) (fun X2 sm2 c2 => dts_nil) (fun X2 sm2 c2 => (de_cmp (cd_ord c2) (de_slice (de_ix c2 (de_var c2 0) (de_bin ad_sub (de_var c2 2) de_int)) do_no (do_so de_int)) (de_slice (de_ix c2 (de_var c2 0) (de_var c2 2)) do_no (do_so de_int)))))) (md.no T.z_all))))))
theorem ok_need_table (T : Txt M) : Cl M 4 "need_table" 1 (g_need_table) :=
  cl_mk (k := 3) (vis := [0]) (loc := [0]) (gls := ["is_table", "NoTable"]) T.d_need_table (N := n_need_table) (ps := ["table"]) ⟨rfl, rfl, rfl, by decide +kernel, rfl, by decide +kernel, by decide +kernel⟩ rfl (by decide +kernel) fun X W md c hs =>
  (dss_one (ds_if (dt_not (dt_truth (de_call c md (ok_is_table T) (by decide) (da_cons (de_var c 0) da_nil)))) (dss_one (ds_raise c md T.e_NoTable)) dss_nil))
theorem ok_points_in (T : Txt M) : Cl M 1 "points_in" 3 (g_points_in) :=
  cl_mk (k := 0) (vis := [0, 1, 2, 3, 4]) (loc := [0, 1, 2, 3, 4]) (gls := []) T.d_points_in (N := n_points_in) (ps := ["table", "sort", "hour"]) ⟨rfl, rfl, rfl, by decide +kernel, rfl, by decide +kernel, by decide +kernel⟩ rfl (by decide +kernel) fun X W md c hs =>
  (dss_cons (ds_set c 3 de_non)
  (dss_cons (ds_for c (di_of (de_var c 0)) (dg_name c 4) (dss_one (ds_if (dt_bool (dw_and (dt_cmp (cd_eq c) (de_ix c (de_var c 4) de_int) (de_var c 1)) (dw_one (dt_cmp (cd_ord c) (de_ix c (de_var c 4) de_int) (de_var c 2))))) (dss_one (ds_set c 3 (de_ix c (de_var c 4) de_int))) dss_nil)))
  (dss_one (ds_ret (de_var c 3)))))
theorem ok_points_at (T : Txt M) : Cl M 5 "points_at" 3 (g_points_at) :=
  cl_mk (k := 4) (vis := [0, 1, 2]) (loc := [0, 1, 2]) (gls := ["need_table", "points_in"]) T.d_points_at (N := n_points_at) (ps := ["table", "sort", "hour"]) ⟨rfl, rfl, rfl, by decide +kernel, rfl, by decide +kernel, by decide +kernel⟩ rfl (by decide +kernel) fun X W md c hs =>
  (dss_cons (ds_expr (de_call c md (ok_need_table T) (by decide) (da_cons (de_var c 0) da_nil)))
  (dss_one (ds_ret (de_call c md (ok_points_in T) (by decide) (da_cons (de_var c 0) (da_cons (de_var c 1) (da_cons (de_var c 2) da_nil)))))))
theorem ok_parting (T : Txt M) : Cl M 5 "parting" 2 (g_parting) :=
  cl_mk (k := 4) (vis := [0, 1, 2, 3, 4]) (loc := [0, 1, 2, 3, 4]) (gls := ["need_table", "sorted", "set", "points_in"]) T.d_parting (N := n_parting) (ps := ["one", "other"]) ⟨rfl, rfl, rfl, by decide +kernel, rfl, by decide +kernel, by decide +kernel⟩ rfl (by decide +kernel) fun X W md c hs =>
  (dss_cons (ds_expr (de_call c md (ok_need_table T) (by decide) (da_cons (de_var c 0) da_nil)))
  (dss_cons (ds_expr (de_call c md (ok_need_table T) (by decide) (da_cons (de_var c 1) da_nil)))
  (dss_cons (ds_new c 2 (dl_sortset c (dm_tm (dl_comp c [4, 3, 5] [4, 3, 5] [] [("sort", 4), ("hour", 3), ("points", 5)] (di_of (de_bin ad_add (de_var c 0) (de_var c 1))) (by rw [hs]; exact blkOk_by (by decide +kernel)) (by decide +kernel) (by decide +kernel) (fun X1 sm1 c1 => (dg_tup c1 (dgs_cons (dg_name c1 4) (dgs_cons (dg_name c1 3) (dgs_cons (dg_name c1 5) dgs_nil))))) (fun X1 sm1 c1 => dts_nil) (fun X1 sm1 c1 => (de_tup (da_cons (de_var c1 3) (da_cons (de_var c1 4) da_nil)))))) (md.no T.z_sorted) (md.no T.z_set)))
  (dss_cons (ds_for c (di_of (de_var c 2)) (dg_tup c (dgs_cons (dg_name c 3) (dgs_cons (dg_name c 4) dgs_nil))) (dss_one (ds_if (dt_cmp (cd_ne c) (de_call c md (ok_points_in T) (by decide) (da_cons (de_var c 0) (da_cons (de_var c 4) (da_cons (de_var c 3) da_nil)))) (de_call c md (ok_points_in T) (by decide) (da_cons (de_var c 1) (da_cons (de_var c 4) (da_cons (de_var c 3) da_nil))))) (dss_one (ds_ret (de_tup (da_cons (de_var c 3) (da_cons (de_var c 4) da_nil))))) dss_nil)))
  (dss_one (ds_ret de_non))))))
theorem ok_law_draw (T : Txt M) : Cl M 1 "_law_draw" 2 (g_law_draw) :=
  cl_mk (k := 0) (vis := [0, 1, 2, 3]) (loc := [0, 1, 2, 3]) (gls := []) T.d_law_draw (N := n_law_draw) (ps := ["draws", "many"]) ⟨rfl, rfl, rfl, by decide +kernel, rfl, by decide +kernel, by decide +kernel⟩ rfl (by decide +kernel) fun X W md c hs =>
  (dss_cons (ds_if (dt_cmp cd_gt (de_ix c (de_var c 0) de_int) de_int) (dss_cons (ds_set c 2 (de_bin ad_mod (de_ix c (de_var c 0) de_int) (de_var c 1)))
  (dss_cons (ds_put c (de_var c 0) de_int (de_bin ad_div (de_ix c (de_var c 0) de_int) (de_var c 1)))
  (dss_one (ds_ret (de_var c 2))))) dss_nil)
  (dss_cons (ds_set c 2 de_int)
  (dss_cons (ds_set c 3 de_int)
  (dss_cons (ds_while c 12 (dt_cmp (cd_ord c) (de_var c 3) (de_var c 1)) (dss_cons (ds_put c (de_var c 0) de_int (de_bin ad_mod (de_bin ad_mul (de_ix c (de_var c 0) de_int) de_int) de_int))
  (dss_cons (ds_set c 2 (de_bin ad_add (de_bin ad_mul (de_var c 2) de_int) (de_bin ad_div (de_bin ad_mod (de_bin ad_mul (de_ix c (de_var c 0) de_int) (de_bin ad_add (de_bin ad_div (de_ix c (de_var c 0) de_int) de_int) de_int)) de_int) de_int)))
  (dss_one (ds_set c 3 (de_bin ad_mul (de_var c 3) de_int))))))
  (dss_one (ds_ret (de_bin ad_mod (de_var c 2) (de_var c 1))))))))
theorem ok_law_is_name (T : Txt M) : Cl M 1 "_law_is_name" 1 (g_law_is_name) :=
  cl_mk (k := 0) (vis := [0]) (loc := [0]) (gls := ["isinstance", "str", "len"]) T.d_law_is_name (N := n_law_is_name) (ps := ["thing"]) ⟨rfl, rfl, rfl, by decide +kernel, rfl, by decide +kernel, by decide +kernel⟩ rfl (by decide +kernel) fun X W md c hs =>
  (dss_cons (ds_if (dt_bool (dw_or (dt_not (dt_truth (de_isi c (de_var c 0) (md.no T.z_isinstance) (md.no T.z_str) (by decide +kernel)))) (dw_or (dt_cmp (cd_ord c) (de_len c (dm_rf (de_var c 0)) (md.no T.z_len)) de_int) (dw_one (dt_cmp cd_gt (de_len c (dm_rf (de_var c 0)) (md.no T.z_len)) de_int))))) (dss_one (ds_ret de_bl)) dss_nil)
  (dss_one (ds_ret (de_cmp (cd_eq c) (de_new (dl_comp c [1] [1] [] [("sign", 1)] (di_of (de_var c 0)) (by rw [hs]; exact blkOk_by (by decide +kernel)) (by decide +kernel) (by decide +kernel) (fun X1 sm1 c1 => (dg_name c1 1)) (fun X1 sm1 c1 => (dts_one (dt_cmp (cd_nin c1) (de_var c1 1) de_str))) (fun X1 sm1 c1 => (de_var c1 1)))) (de_new (dl_lst da_nil))))))
theorem ok_law_within (T : Txt M) : Cl M 1 "_law_within" 3 (g_law_within) :=
  cl_mk (k := 0) (vis := [0, 1, 2]) (loc := [0, 1, 2]) (gls := ["isinstance", "int", "bool"]) T.d_law_within (N := n_law_within) (ps := ["thing", "low", "high"]) ⟨rfl, rfl, rfl, by decide +kernel, rfl, by decide +kernel, by decide +kernel⟩ rfl (by decide +kernel) fun X W md c hs =>
  (dss_one (ds_ret (de_and (de_isi c (de_var c 0) (md.no T.z_isinstance) (md.no T.z_int) (by decide +kernel)) (de_and (de_not (de_isi c (de_var c 0) (md.no T.z_isinstance) (md.no T.z_bool) (by decide +kernel))) (de_and (de_cmp (cd_ord c) (de_var c 1) (de_var c 0)) (de_one (de_cmp (cd_ord c) (de_var c 0) (de_var c 2))))))))
theorem ok_law_is_table (T : Txt M) : Cl M 2 "_law_is_table" 1 (g_law_is_table) :=
  cl_mk (k := 1) (vis := [0, 1, 2]) (loc := [0, 1, 2]) (gls := ["isinstance", "tuple", "len", "_law_is_name", "_law_within", "sorted", "set"]) T.d_law_is_table (N := n_law_is_table) (ps := ["thing"]) ⟨rfl, rfl, rfl, by decide +kernel, rfl, by decide +kernel, by decide +kernel⟩ rfl (by decide +kernel) fun X W md c hs =>
  (dss_cons (ds_if (dt_bool (dw_or (dt_not (dt_truth (de_isi c (de_var c 0) (md.no T.z_isinstance) (md.no T.z_tuple) (by decide +kernel)))) (dw_or (dt_cmp (cd_ord c) (de_len c (dm_rf (de_var c 0)) (md.no T.z_len)) de_int) (dw_one (dt_cmp cd_gt (de_len c (dm_rf (de_var c 0)) (md.no T.z_len)) de_int))))) (dss_one (ds_ret de_bl)) dss_nil)
  (dss_cons (ds_for c (di_of (de_var c 0)) (dg_name c 1) (dss_cons (ds_if (dt_bool (dw_or (dt_not (dt_truth (de_isi c (de_var c 1) (md.no T.z_isinstance) (md.no T.z_tuple) (by decide +kernel)))) (dw_or (dt_cmp (cd_ne c) (de_len c (dm_rf (de_var c 1)) (md.no T.z_len)) de_int) (dw_one (dt_not (dt_truth (de_call c md (ok_law_is_name T) (by decide) (da_cons (de_ix c (de_var c 1) de_int) da_nil)))))))) (dss_one (ds_ret de_bl)) dss_nil)
  (dss_one (ds_if (dt_bool (dw_or (dt_not (dt_truth (de_call c md (ok_law_within T) (by decide) (da_cons (de_ix c (de_var c 1) de_int) (da_cons de_int (da_cons (de_bin ad_pow de_int de_int) da_nil)))))) (dw_one (dt_not (dt_truth (de_call c md (ok_law_within T) (by decide) (da_cons (de_ix c (de_var c 1) de_int) (da_cons de_int (da_cons (de_bin ad_pow de_int de_int) da_nil))))))))) (dss_one (ds_ret de_bl)) dss_nil))))
  (dss_cons (ds_setLc c 2 [1] [1] [] [("entry", 1)] (di_of (de_var c 0)) (by rw [hs]; exact blkOk_by (by decide +kernel)) (by decide +kernel) (by decide +kernel) (fun X1 sm1 c1 => (dg_name c1 1)) (fun X1 sm1 c1 => dts_nil) (fun X1 sm1 c1 => (de_slice (de_var c1 1) do_no (do_so de_int))) (by rw [hs]; rfl) rfl (by decide +kernel) rfl (by rw [hs]; rfl))
  (dss_one (ds_ret (de_cmp (cd_eq c) (de_var c 2) (de_new (dl_sortset c (dm_rf (de_var c 2)) (md.no T.z_sorted) (md.no T.z_set)))))))))
theorem ok_law_table (T : Txt M) : Cl M 2 "_law_table" 2 (g_law_table) :=
  cl_mk (k := 1) (vis := [0, 1, 2, 3, 4, 5, 6]) (loc := [0, 1, 2, 3, 4, 5, 6]) (gls := ["_law_draw", "range", "len", "tuple", "sorted"]) T.d_law_table (N := n_law_table) (ps := ["draws", "sorts"]) ⟨rfl, rfl, rfl, by decide +kernel, rfl, by decide +kernel, by decide +kernel⟩ rfl (by decide +kernel) fun X W md c hs =>
  (dss_cons (ds_set c 2 de_dnewT)
  (dss_cons (ds_set c 3 (de_lix (dl_lst (da_cons de_int (da_cons de_int (da_cons (de_bin ad_add (de_bin ad_pow de_int de_int) de_int) da_nil)))) (de_call c md (ok_law_draw T) (by decide) (da_cons (de_var c 0) (da_cons de_int da_nil)))))
  (dss_cons (ds_for c (di_rg1 c (md.no T.z_range) (de_bin ad_add de_int (de_call c md (ok_law_draw T) (by decide) (da_cons (de_var c 0) (da_cons de_int da_nil))))) (dg_name c 4) (dss_cons (ds_set c 5 (de_lix (dl_lst (da_cons de_int (da_cons (de_bin ad_add de_int (de_call c md (ok_law_draw T) (by decide) (da_cons (de_var c 0) (da_cons de_int da_nil)))) (da_cons (de_bin ad_add de_int (de_call c md (ok_law_draw T) (by decide) (da_cons (de_var c 0) (da_cons de_int da_nil)))) da_nil)))) (de_bin ad_div (de_call c md (ok_law_draw T) (by decide) (da_cons (de_var c 0) (da_cons de_int da_nil))) de_int)))
  (dss_cons (ds_set c 6 (de_lix (dl_lst (da_cons de_int (da_cons (de_call c md (ok_law_draw T) (by decide) (da_cons (de_var c 0) (da_cons de_int da_nil))) (da_cons (de_call c md (ok_law_draw T) (by decide) (da_cons (de_var c 0) (da_cons (de_var c 3) da_nil))) da_nil)))) (de_call c md (ok_law_draw T) (by decide) (da_cons (de_var c 0) (da_cons de_int da_nil)))))
  (dss_one (ds_put c (de_var c 2) (de_tup (da_cons (de_ix c (de_var c 1) (de_call c md (ok_law_draw T) (by decide) (da_cons (de_var c 0) (da_cons (de_len c (dm_rf (de_var c 1)) (md.no T.z_len)) da_nil)))) (da_cons (de_var c 6) da_nil))) (de_var c 5))))))
  (dss_one (ds_ret (de_tuple c (dm_tm (dl_sortx c (dm_tm (dl_lock (lockV 2) (dl_comp c [7, 2] [7] [] [("key", 7)] (di_of (de_var c 2)) (by rw [hs]; exact blkOk_by (by decide +kernel)) (by decide +kernel) (by decide +kernel) (fun X1 sm1 c1 => (dg_name c1 7)) (fun X1 sm1 c1 => dts_nil) (fun X1 sm1 c1 => (de_bin ad_add (de_var c1 7) (de_tup (da_cons (de_ix c1 (de_var c1 2) (de_var c1 7)) da_nil))))))) (md.no T.z_sorted))) (md.no T.z_tuple)))))))
theorem ok_law_draws (T : Txt M) : Cl M 1 "_law_draws" 2 (g_law_draws) :=
  cl_mk (k := 0) (vis := [0, 1, 2]) (loc := [0, 1, 2]) (gls := ["len", "int"]) T.d_law_draws (N := n_law_draws) (ps := ["script", "k"]) ⟨rfl, rfl, rfl, by decide +kernel, rfl, by decide +kernel, by decide +kernel⟩ rfl (by decide +kernel) fun X W md c hs =>
  (dss_cons (ds_set c 2 (de_bin ad_mul de_int (de_var c 1)))
  (dss_cons (ds_if (dt_cmp (cd_ord c) (de_var c 1) (de_len c (dm_rf (de_var c 0)) (md.no T.z_len))) (dss_one (ds_set c 2 (de_bin ad_mod (de_ix c (de_var c 0) (de_var c 1)) (de_bin ad_mul (de_bin ad_pow de_int de_int) (de_bin ad_pow de_int de_int))))) (dss_one (ds_if (dt_cmp cd_gt (de_len c (dm_rf (de_var c 0)) (md.no T.z_len)) de_int) (dss_one (ds_set c 2 (de_bin ad_add (de_bin ad_mod (de_ix c (de_var c 0) (de_bin ad_mod (de_var c 1) (de_len c (dm_rf (de_var c 0)) (md.no T.z_len)))) (de_bin ad_pow de_int de_int)) (de_bin ad_mul de_int (de_var c 1))))) dss_nil)))
  (dss_one (ds_ret (de_new (dl_lst (da_cons (de_bin ad_mul (de_var c 2) (de_int1 c (da_cons (de_cmp (cd_ord c) (de_var c 2) (de_bin ad_pow de_int de_int)) da_nil) (md.no T.z_int))) (da_cons (de_bin ad_add de_int (de_bin ad_mod (de_bin ad_add (de_bin ad_mul (de_var c 2) de_int) (de_bin ad_mul de_int (de_bin ad_add (de_var c 1) de_int))) de_int)) da_nil))))))))
theorem ok_law_names (T : Txt M) : Cl M 2 "_law_names" 2 (g_law_names) :=
  cl_mk (k := 1) (vis := [0, 1, 2, 3, 4, 5]) (loc := [0, 1, 2, 3, 4, 5]) (gls := ["range", "_law_draw", "sorted"]) T.d_law_names (N := n_law_names) (ps := ["draws", "many"]) ⟨rfl, rfl, rfl, by decide +kernel, rfl, by decide +kernel, by decide +kernel⟩ rfl (by decide +kernel) fun X W md c hs =>
  (dss_cons (ds_set c 2 de_str)
  (dss_cons (ds_set c 3 (de_join de_str (dm_tm (dl_comp c [6, 2, 0] [6] ["_law_draw"] [("k", 6)] (di_rg1 c (md.no T.z_range) (de_lix (dl_lst (da_cons de_int (da_cons de_int (da_cons de_int (da_cons de_int da_nil))))) (de_call c md (ok_law_draw T) (by decide) (da_cons (de_var c 0) (da_cons de_int da_nil))))) (by rw [hs]; exact blkOk_by (by decide +kernel)) (by decide +kernel) (by decide +kernel) (fun X1 sm1 c1 => (dg_name c1 6)) (fun X1 sm1 c1 => dts_nil) (fun X1 sm1 c1 => (de_ix c1 (de_var c1 2) (de_call c1 (md.to sm1) (ok_law_draw T) (by decide) (da_cons (de_var c1 0) (da_cons de_int da_nil)))))))))
  (dss_cons (ds_set c 4 (de_call c md (ok_law_draw T) (by decide) (da_cons (de_var c 0) (da_cons de_int da_nil))))
  (dss_cons (ds_set c 5 (de_lix (dl_lst (da_cons de_int (da_cons de_int (da_cons de_int (da_cons de_int da_nil))))) (de_call c md (ok_law_draw T) (by decide) (da_cons (de_var c 0) (da_cons de_int da_nil)))))
  (dss_one (ds_ret (de_new (dl_sorted c (dm_tm (dl_comp c [6, 3, 2, 4, 5] [6] [] [("k", 6)] (di_rg1 c (md.no T.z_range) (de_var c 1)) (by rw [hs]; exact blkOk_by (by decide +kernel)) (by decide +kernel) (by decide +kernel) (fun X2 sm2 c2 => (dg_name c2 6)) (fun X2 sm2 c2 => dts_nil) (fun X2 sm2 c2 => (de_bin ad_add (de_var c2 3) (de_ix c2 (de_var c2 2) (de_bin ad_mod (de_bin ad_add (de_var c2 4) (de_bin ad_mul (de_var c2 5) (de_var c2 6))) de_int)))))) (md.no T.z_sorted)))))))))
theorem ok_law_points (T : Txt M) : Cl M 1 "_law_points" 3 (g_law_points) :=
  cl_mk (k := 0) (vis := [0, 1, 2, 3]) (loc := [0, 1, 2, 3]) (gls := []) T.d_law_points (N := n_law_points) (ps := ["table", "sort", "hour"]) ⟨rfl, rfl, rfl, by decide +kernel, rfl, by decide +kernel, by decide +kernel⟩ rfl (by decide +kernel) fun X W md c hs =>
  (dss_cons (ds_setLc c 3 [4, 1, 2] [4] [] [("entry", 4)] (di_of (de_var c 0)) (by rw [hs]; exact blkOk_by (by decide +kernel)) (by decide +kernel) (by decide +kernel) (fun X1 sm1 c1 => (dg_name c1 4)) (fun X1 sm1 c1 => (dts_one (dt_bool (dw_and (dt_cmp (cd_eq c1) (de_ix c1 (de_var c1 4) de_int) (de_var c1 1)) (dw_one (dt_cmp (cd_ord c1) (de_ix c1 (de_var c1 4) de_int) (de_var c1 2))))))) (fun X1 sm1 c1 => (de_ix c1 (de_var c1 4) de_int)) (by rw [hs]; rfl) rfl (by decide +kernel) rfl (by rw [hs]; rfl))
  (dss_one (ds_ret (de_if (dt_cmp (cd_ne c) (de_var c 3) (de_new (dl_lst da_nil))) (de_ix c (de_var c 3) de_neg) de_non))))
theorem ok_law_other (T : Txt M) : Cl M 3 "_law_other" 3 (g_law_other) :=
  cl_mk (k := 2) (vis := [0, 1, 2, 3, 4, 5, 6, 7]) (loc := [0, 1, 2, 3, 4, 5, 6, 7]) (gls := ["list", "range", "_law_draw", "len", "max", "tuple", "sorted", "_law_is_table", "_law_table"]) T.d_law_other (N := n_law_other) (ps := ["draws", "table", "sorts"]) ⟨rfl, rfl, rfl, by decide +kernel, rfl, by decide +kernel, by decide +kernel⟩ rfl (by decide +kernel) fun X W md c hs =>
  (dss_cons (ds_new c 3 (dl_list c (dm_rf (de_var c 1)) (md.no T.z_list)))
  (dss_cons (ds_for c (di_rg1 c (md.no T.z_range) (de_bin ad_add de_int (de_call c md (ok_law_draw T) (by decide) (da_cons (de_var c 0) (da_cons de_int da_nil))))) (dg_name c 4) (dss_cons (ds_set c 5 (de_call c md (ok_law_draw T) (by decide) (da_cons (de_var c 0) (da_cons (de_len c (dm_rf (de_var c 3)) (md.no T.z_len)) da_nil))))
  (dss_cons (ds_set c 6 (de_call c md (ok_law_draw T) (by decide) (da_cons (de_var c 0) (da_cons de_int da_nil))))
  (dss_one (ds_if (dt_bool (dw_and (dt_cmp (cd_eq c) (de_var c 6) de_int) (dw_one (dt_cmp cd_gt (de_len c (dm_rf (de_var c 3)) (md.no T.z_len)) de_int)))) (dss_one (ds_expr (de_popAt (de_var c 3) (da_cons (de_var c 5) da_nil)))) (dss_one (ds_if (dt_cmp (cd_eq c) (de_var c 6) de_int) (dss_one (ds_put c (de_var c 3) (de_var c 5) (de_bin ad_add (de_slice (de_ix c (de_var c 3) (de_var c 5)) do_no (do_so de_int)) (de_tup (da_cons (de_bin ad_add (de_ix c (de_ix c (de_var c 3) (de_var c 5)) de_int) de_int) da_nil))))) (dss_one (ds_if (dt_cmp (cd_eq c) (de_var c 6) de_int) (dss_one (ds_put c (de_var c 3) (de_var c 5) (de_tup (da_cons (de_ix c (de_ix c (de_var c 3) (de_var c 5)) de_int) (da_cons (de_max2 c (da_cons de_int (da_cons (de_bin ad_sub (de_ix c (de_ix c (de_var c 3) (de_var c 5)) de_int) de_int) da_nil)) (md.no T.z_max)) (da_cons (de_ix c (de_ix c (de_var c 3) (de_var c 5)) de_int) da_nil)))))) (dss_one (ds_if (dt_cmp (cd_eq c) (de_var c 6) de_int) (dss_cons (ds_set c 7 (de_bin ad_add (de_bin ad_add (de_ix c (de_ix c (de_var c 3) (de_var c 5)) de_int) de_int) (de_call c md (ok_law_draw T) (by decide) (da_cons (de_var c 0) (da_cons de_int da_nil)))))
  (dss_one (ds_expr (de_append (de_var c 3) (da_cons (de_tup (da_cons (de_ix c (de_ix c (de_var c 3) (de_var c 5)) de_int) (da_cons (de_var c 7) (da_cons (de_ix c (de_ix c (de_var c 3) (de_var c 5)) de_int) da_nil)))) da_nil))))) (dss_one (ds_put c (de_var c 3) (de_var c 5) (de_bin ad_add (de_tup (da_cons (de_ix c (de_var c 2) (de_call c md (ok_law_draw T) (by decide) (da_cons (de_var c 0) (da_cons de_int da_nil)))) da_nil)) (de_slice (de_ix c (de_var c 3) (de_var c 5)) (do_so de_int) do_no)))))))))))))))
  (dss_cons (ds_set c 3 (de_tuple c (dm_tm (dl_sorted c (dm_rf (de_var c 3)) (md.no T.z_sorted))) (md.no T.z_tuple)))
  (dss_one (ds_ret (de_if (dt_truth (de_call c md (ok_law_is_table T) (by decide) (da_cons (de_var c 3) da_nil))) (de_var c 3) (de_call c md (ok_law_table T) (by decide) (da_cons (de_var c 0) (da_cons (de_var c 2) da_nil)))))))))
theorem ok_law (T : Txt M) {f : Addr} {fd : FuncData} (F : Fun M.K "law" "law" s_law f fd) : FnOk M.P M.w M.K M.mg M.base (L2N.CX M.P M.w) 6 f fd ["script"] (spD M.K 1 (g_law)) :=
  fn_ok (k := 5) (vis := [0, 1, 2, 3, 4, 5, 6, 7, 8, 9, 10, 11]) (loc := [0, 1, 2, 3, 4, 5, 6, 7, 8, 9, 10, 11]) (gls := ["range", "max", "min", "len", "_law_draws", "_law_names", "_law_table", "_law_other", "_law_points", "parting", "points_at"]) F (N := n_law) (ps := ["script"]) ⟨rfl, rfl, rfl, by decide +kernel, rfl, by decide +kernel, by decide +kernel⟩ rfl (by decide +kernel) fun X W md c hs =>
  (dss_cons (ds_for c (di_rg1 c (md.no T.z_range) (de_max2 c (da_cons de_int (da_cons (de_min2 c (da_cons de_int (da_cons (de_len c (dm_rf (de_var c 0)) (md.no T.z_len)) da_nil)) (md.no T.z_min)) da_nil)) (md.no T.z_max))) (dg_name c 1) (dss_cons (ds_set c 2 (de_call c md (ok_law_draws T) (by decide) (da_cons (de_var c 0) (da_cons (de_var c 1) da_nil))))
  (dss_cons (ds_set c 3 (de_call c md (ok_law_names T) (by decide) (da_cons (de_var c 2) (da_cons de_int da_nil))))
  (dss_cons (ds_set c 4 (de_call c md (ok_law_table T) (by decide) (da_cons (de_var c 2) (da_cons (de_var c 3) da_nil))))
  (dss_cons (ds_set c 5 (de_call c md (ok_law_other T) (by decide) (da_cons (de_var c 2) (da_cons (de_var c 4) (da_cons (de_var c 3) da_nil)))))
  (dss_cons (ds_new c 6 (dl_lst da_nil))
  (dss_cons (ds_for c (di_of (de_bin ad_add (de_var c 4) (de_var c 5))) (dg_tup c (dgs_cons (dg_name c 7) (dgs_cons (dg_name c 8) (dgs_cons (dg_name c 9) dgs_nil)))) (dss_one (ds_for c (di_of (de_var c 3)) (dg_name c 10) (dss_one (ds_if (dt_cmp (cd_ne c) (de_call c md (ok_law_points T) (by decide) (da_cons (de_var c 4) (da_cons (de_var c 10) (da_cons (de_var c 8) da_nil)))) (de_call c md (ok_law_points T) (by decide) (da_cons (de_var c 5) (da_cons (de_var c 10) (da_cons (de_var c 8) da_nil))))) (dss_one (ds_expr (de_append (de_var c 6) (da_cons (de_tup (da_cons (de_var c 8) (da_cons (de_var c 10) da_nil))) da_nil)))) dss_nil)))))
  (dss_cons (ds_set c 11 (de_call c md (ok_parting T) (by decide) (da_cons (de_var c 4) (da_cons (de_var c 5) da_nil))))
  (dss_cons (ds_if (dt_bool (dw_or (dt_cmp (cd_ne c) (de_var c 11) (de_if (dt_cmp (cd_ne c) (de_var c 6) (de_new (dl_lst da_nil))) (de_minT c (dm_rf (de_var c 6)) (md.no T.z_min)) de_non)) (dw_or (dt_cmp (cd_ne c) (de_call c md (ok_parting T) (by decide) (da_cons (de_var c 5) (da_cons (de_var c 4) da_nil))) (de_var c 11)) (dw_one (dt_cmp cd_isnot (de_call c md (ok_parting T) (by decide) (da_cons (de_var c 4) (da_cons (de_var c 4) da_nil))) de_non))))) (dss_one (ds_ret de_bl)) dss_nil)
  (dss_one (ds_if (dt_cmp cd_isnot (de_var c 11) de_non) (dss_cons (ds_asg (de_var c 11) (dg_tup c (dgs_cons (dg_name c 8) (dgs_cons (dg_name c 7) dgs_nil))))
  (dss_cons (ds_if (dt_cmp (cd_eq c) (de_call c md (ok_points_at T) (by decide) (da_cons (de_var c 4) (da_cons (de_var c 7) (da_cons (de_var c 8) da_nil)))) (de_call c md (ok_points_at T) (by decide) (da_cons (de_var c 5) (da_cons (de_var c 7) (da_cons (de_var c 8) da_nil))))) (dss_one (ds_ret de_bl)) dss_nil)
  (dss_one (ds_if (dt_cmp (cd_ne c) (de_new (dl_comp c [10, 4, 8, 5] [10] ["points_at"] [("name", 10)] (di_of (de_var c 3)) (by rw [hs]; exact blkOk_by (by decide +kernel)) (by decide +kernel) (by decide +kernel) (fun X1 sm1 c1 => (dg_name c1 10)) (fun X1 sm1 c1 => (dts_one (dt_cmp (cd_ne c1) (de_call c1 (md.to sm1) (ok_points_at T) (by decide) (da_cons (de_var c1 4) (da_cons (de_var c1 10) (da_cons (de_bin ad_sub (de_var c1 8) de_int) da_nil)))) (de_call c1 (md.to sm1) (ok_points_at T) (by decide) (da_cons (de_var c1 5) (da_cons (de_var c1 10) (da_cons (de_bin ad_sub (de_var c1 8) de_int) da_nil))))))) (fun X1 sm1 c1 => (de_var c1 10)))) (de_new (dl_lst da_nil))) (dss_one (ds_ret de_bl)) dss_nil)))) dss_nil)))))))))))
  (dss_one (ds_ret de_bl)))
end
end K03

namespace K03
open PySem PySem.Spec PyProof.Rows L2 DL

theorem mnT_le : ∀ (ts : List TKy) (t : TKy), ∀ y ∈ t :: ts, DL.tLt y (mnT t ts) = false
  | [], t, y, m => by
    rw [List.mem_singleton.mp m]
    exact tLt_irrefl t
  | z :: ts, t, y, m => by
    have ih := mnT_le ts (if DL.tLt z t then z else t)
    show DL.tLt y (mnT (if DL.tLt z t then z else t) ts) = false
    have h0 := ih _ List.mem_cons_self
    have lift : ∀ c, DL.tLt c (if DL.tLt z t then z else t) = false → DL.tLt c (mnT (if DL.tLt z t then z else t) ts) = false := fun c hc => by
      generalize (if DL.tLt z t then z else t) = a at hc h0 ih
      generalize mnT a ts = b at h0 ih
      cases q : DL.tLt c b with
      | false => rfl
      | true =>
        by_cases e : a = b
        · subst e
          rw [q] at hc
          cases hc
        · rcases tLt_total e with z | z
          · rw [z] at h0
            cases h0
          · rw [tLt_trans q z] at hc
            cases hc
    rcases List.mem_cons.mp m with rfl | m
    · refine lift _ ?_
      cases q : DL.tLt z y with
      | true => simpa [q] using tLt_asymm q
      | false => simpa [q] using tLt_irrefl y
    · rcases List.mem_cons.mp m with rfl | m
      · refine lift _ ?_
        cases q : DL.tLt y t with
        | true => simpa [q] using tLt_irrefl y
        | false => simpa [q] using q
      · exact ih y (List.mem_cons_of_mem _ m)
abbrev q (h : Int) (s : Str) : TKy := [.inl h, .inr s]
theorem q_lt {h h' : Int} {s s' : Str} (l : h < h') : DL.tLt (q h s) (q h' s') = true := by
  have : ¬ (Sum.inl h : Key) = .inl h' := fun z => by cases z; omega
  simp only [q, DL.tLt, this, if_false, kLt, decide_eq_true l]
theorem un_place {T U : List En} (h1 : Inc T) (h2 : Inc U) {s : Str} {h : Int} (un : pin T s h ≠ pin U s h) : ∃ e ∈ T ++ U, e.s = s ∧ e.h ≤ h ∧ pin T s e.h ≠ pin U s e.h := by
  rcases last_of s h (T ++ U) with n | ⟨e, m, s1, l1, x1⟩
  · exact absurd (by rw [pin_no h1 fun e m => n e (List.mem_append_left _ m), pin_no h2 fun e m => n e (List.mem_append_right _ m)]) un
  · subst s1
    rw [pin_still h1 l1 fun e' m' s' l => x1 e' (List.mem_append_left _ m') s' l, pin_still h2 l1 fun e' m' s' l => x1 e' (List.mem_append_right _ m') s' l] at un
    exact ⟨e, m, rfl, l1, un⟩
theorem places_sorted (T U : List En) : (places T U).Pairwise fun a b => DL.tLt b a = false := List.Pairwise.imp (fun {a b} h => by
  have h2 : (!DL.tLt b a) = true := h
  simpa using h2) (sort_sorted _)
/-- the first place where they are apart -/
theorem find_some {α : Type} {p : α → Bool} {lt : α → α → Bool} : ∀ {l : List α} {k : α}, (∀ x, lt x x = false) → l.Pairwise (fun a b => lt b a = false) → l.find? p = some k → k ∈ l ∧ p k = true ∧ ∀ y ∈ l, p y = true → lt y k = false
  | a :: l, k, ir, pw, h => by
    obtain ⟨p1, p2⟩ := List.pairwise_cons.mp pw
    rw [List.find?_cons] at h
    cases qa : p a with
    | true =>
      rw [qa] at h
      cases h
      refine ⟨by simp, qa, fun y my _ => ?_⟩
      rcases List.mem_cons.mp my with rfl | my
      · exact ir _
      · exact p1 y my
    | false =>
      rw [qa] at h
      obtain ⟨a1, a2, a3⟩ := find_some ir p2 h
      refine ⟨List.mem_cons_of_mem _ a1, a2, fun y my py => ?_⟩
      rcases List.mem_cons.mp my with rfl | my
      · rw [qa] at py
        cases py
      · exact a3 y my py
theorem first {T U : List En} {k : TKy} (h : (places T U).find? (apart T U) = some k) : ∃ e ∈ T ++ U, e.q = k ∧ pin T e.s e.h ≠ pin U e.s e.h ∧ ∀ e' ∈ T ++ U, pin T e'.s e'.h ≠ pin U e'.s e'.h → DL.tLt e'.q k = false := by
  obtain ⟨a1, a2, a3⟩ := find_some (fun x => tLt_irrefl x) (places_sorted T U) h
  obtain ⟨e, m, rfl⟩ := place_mem.mp a1
  rw [apart_q] at a2
  refine ⟨e, m, rfl, by simpa using a2, fun e' m' un => a3 _ (place_mem.mpr ⟨e', m', rfl⟩) (by rw [apart_q]; simpa using un)⟩
/-- behind the loops -/
def IsDue (T U : List En) (xs : List Str) (L : List TKy) : Prop := ∀ k, k ∈ L ↔ ∃ e ∈ T ++ U, ∃ s ∈ xs, k = q e.h s ∧ pin T s e.h ≠ pin U s e.h
def least : List TKy → Option TKy
  | [] => none
  | t :: ts => some (mnT t ts)
theorem least_ok {T U : List En} {xs : List Str} {L : List TKy} (h1 : Inc T) (h2 : Inc U) (hx : ∀ e ∈ T ++ U, e.s ∈ xs) (hd : IsDue T U xs L) : (places T U).find? (apart T U) = least L := by
  cases qf : (places T U).find? (apart T U) with
  | none =>
    have al := (alike_iff h1 h2).mp qf
    cases L with
    | nil => rfl
    | cons t ts =>
      obtain ⟨e, _, s, _, _, un⟩ := (hd t).mp (by simp)
      exact absurd (al s e.h) un
  | some k =>
    obtain ⟨e, m, rfl, un, mn⟩ := first qf
    have mk : e.q ∈ L := (hd _).mpr ⟨e, m, e.s, hx e m, rfl, un⟩
    cases L with
    | nil => cases mk
    | cons t ts =>
      show some e.q = some (mnT t ts)
      have mm := mnT_mem ts t
      have le := mnT_le ts t e.q mk
      obtain ⟨e1, m1, s, ms, ek, un1⟩ := (hd _).mp mm
      rw [ek] at le ⊢
      obtain ⟨e2, m2, s2, l2, un2⟩ := un_place h1 h2 un1
      subst s2
      have b := mn e2 m2 un2
      by_cases z : e.q = q e1.h e2.s
      · rw [z]
      · rcases tLt_total z with y | y
        · rw [le] at y
          cases y
        · by_cases w : e2.h = e1.h
          · have : e2.q = q e1.h e2.s := by rw [← w]; rfl
            rw [this, y] at b
            cases b
          · have : DL.tLt e2.q (q e1.h e2.s) = true := q_lt (by omega)
            rw [tLt_trans this y] at b
            cases b
theorem find_swap {T U : List En} (h1 : Inc T) (h2 : Inc U) : (places U T).find? (apart U T) = (places T U).find? (apart T U) := by
  cases qf : (places T U).find? (apart T U) with
  | none =>
    rw [alike_iff h2 h1]
    intro s h
    exact ((alike_iff h1 h2).mp qf s h).symm
  | some k =>
    cases qg : (places U T).find? (apart U T) with
    | none =>
      have al := (alike_iff h2 h1).mp qg
      obtain ⟨e, _, _, un, _⟩ := first qf
      exact absurd (al e.s e.h).symm un
    | some k' =>
      obtain ⟨e, m, rfl, un, mn⟩ := first qf
      obtain ⟨e', m', rfl, un', mn'⟩ := first qg
      have sw : ∀ {A B : List En} {x : En}, x ∈ A ++ B → x ∈ B ++ A := fun {A B x} z => by
        rcases List.mem_append.mp z with z | z
        · exact List.mem_append_right _ z
        · exact List.mem_append_left _ z
      have a := mn e' (sw m') (Ne.symm un')
      have b := mn' e (sw m) (Ne.symm un)
      congr 1
      by_cases z : e'.q = e.q
      · exact z
      · rcases tLt_total z with y | y
        · rw [y] at a; cases a
        · rw [y] at b; cases b
theorem find_self (T : List En) : (places T T).find? (apart T T) = none := by
  cases qf : (places T T).find? (apart T T) with
  | none => rfl
  | some k =>
    obtain ⟨e, _, _, un, _⟩ := first qf
    exact absurd rfl un
/-- ahead of it they are alike -/
theorem ahead {T U : List En} (h1 : Inc T) (h2 : Inc U) {h : Int} {s : Str} (qf : (places T U).find? (apart T U) = some (q h s)) (s' : Str) : pin T s' (h - 1) = pin U s' (h - 1) := by
  by_cases un : pin T s' (h - 1) = pin U s' (h - 1)
  · exact un
  · obtain ⟨e, m, e1, l, un2⟩ := un_place h1 h2 un
    subst e1
    obtain ⟨_, _, _, _, mn⟩ := first qf
    have := mn e m un2
    rw [show e.q = q e.h e.s from rfl, q_lt (by omega)] at this
    cases this
end K03

namespace K03
open PySem PySem.Spec PyProof.Rows L2 DL

theorem nin_abc {c : Nat} {S : Sto} (h0 : 97 ≤ c) (h1 : c ≤ 122) : dNin (.str ⟨#[c]⟩) (.str abc) S = .ok (.bl false) S := by
  have : ∀ k : Fin 26, (!(Builtin.Str.occurrences abc ⟨#[97 + (k : Nat)]⟩ 0 abc.length 1).isEmpty) = true := by decide +kernel
  have := this ⟨c - 97, by omega⟩
  simp only [show 97 + (c - 97) = c by omega] at this
  show ofB ((some (!(Builtin.Str.occurrences abc ⟨#[c]⟩ 0 abc.length 1).isEmpty)).map not) S = _
  rw [this]
  rfl
theorem eq_nil2 {S : Sto} {r q : Nat} (h1 : S[r]? = some (.lst [])) (h2 : S[q]? = some (.lst [])) : dEq (.ref r) (.ref q) S = .ok (.bl true) S := by
  unfold dEq
  rw [dEqB_l (xs := []) (ys := []) h1 h2 (fun t z => (nomatch z)) (fun t z => (nomatch z))]
  rfl
theorem law_is_name_ok {x : Str} {S : Sto} (h : nmOk x) : (g_law_is_name [.str x] S).W fun d S' => d = .bl true ∧ Px S S' := by
  unfold g_law_is_name gOf
  rw [R.W_ret]
  show (b_law_is_name [some (.str x), none] S).W _ _
  have hl := h.len
  have h1 : 1 ≤ x.length := by rw [str_len]; exact h.1
  have hc : fComp (aName 1) (eTst (eBin dNin (eVar 1) (eC (.str abc)))) (eVar 1) Tru [some (.str x), none] (x.cps.toList.map fun c => D.str ⟨#[c]⟩) S = .ok [] S := by
    have := comp_pure (asg := aName 1) (ft := eTst (eBin dNin (eVar 1) (eC (.str abc)))) (fe := eVar 1) (g := Tru) (env := [some (.str x), none]) (S := S) trivial (fun c : Nat => D.str ⟨#[c]⟩) (fun _ => false) (fun c => D.str ⟨#[c]⟩) x.cps.toList fun c hc => ⟨_, rfl, ?_, fun z => by cases z⟩
    · rw [this]
      simp
    · have := nin_abc (S := S) (h.2.2 c hc).1 (h.2.2 c hc).2
      simp only [ev, this, R.bind]
  have px : Px S (S ++ [.lst []] ++ [.lst []]) := (Px.snoc _ _).trans (Px.snoc _ _)
  have eq := eq_nil2 (S := S ++ [.lst []] ++ [.lst []]) (r := S.length) (q := (S ++ [O.lst []]).length) ((Px.snoc _ _).at at_snoc) at_snoc
  unfold b_law_is_name
  refine W_seq (fun e S' => S = S' ∧ e = [some (.str x), none]) ?_ ?_
  · simp only [ev, isStr, len_str (by omega : x.length ≤ 1000000), DL.lt_ok, DL.gt_ok, Bool.not_true, decide_eq_false (show ¬ (x.length : Int) < 1 by omega), decide_eq_false (show ¬ (8 : Int) < (x.length : Int) by omega), and_self]
  rintro _ _ ⟨rfl, rfl⟩
  simp only [ev, gIt, wipeE, sml (show (x.cps.toList.map fun c => D.str ⟨#[c]⟩).length ≤ 1000000 by rw [List.length_map, ← str_len]; omega), if_true]
  rw [hc]
  simp only [ev, eq]
  exact ⟨trivial, px⟩
theorem law_within_ok {i lo hi : Int} {S : Sto} : g_law_within [.int i, .int lo, .int hi] S = .ok (.bl (decide (lo ≤ i) && decide (i ≤ hi))) S := by
  have : (g_law_within [.int i, .int lo, .int hi] S).W fun d S' => d = .bl (decide (lo ≤ i) && decide (i ≤ hi)) ∧ S' = S := by
    unfold g_law_within gOf
    rw [R.W_ret]
    show (b_law_within [some (.int i), some (.int lo), some (.int hi)] S).W _ _
    simp only [b_law_within, ev, DL.isInt, DL.isIntB, le_ok, Bool.not_false]
    by_cases h : lo ≤ i
    · simp only [decide_eq_true h, ev, le_ok, Bool.true_and, and_self]
    · simp only [decide_eq_false h, ev, Bool.false_and, and_self]
  obtain ⟨a, S', e, rfl, rfl⟩ := this.ok
  exact e
theorem ck_rows (F : List En) : Rows (F.map En.c) := by
  refine ⟨fun x hx y hy => ?_, fun x hx => ?_, fun x hx y hy => ?_⟩
  · obtain ⟨a, _, rfl⟩ := List.mem_map.mp hx
    obtain ⟨b, _, rfl⟩ := List.mem_map.mp hy
    exact c_cmp a b
  · obtain ⟨a, _, rfl⟩ := List.mem_map.mp hx
    simp [En.c]
  · obtain ⟨a, _, rfl⟩ := List.mem_map.mp hx
    obtain ⟨b, _, rfl⟩ := List.mem_map.mp hy
    rfl
theorem inc_of {F : List En} (h : F.map En.c = (dd (F.map En.c)).mergeSort DL.tLe) : Inc F := by
  have nd : (F.map En.c).Nodup := by
    rw [h]
    exact (List.mergeSort_perm _ _).nodup_iff.mpr (dd_nod _)
  have so : (F.map En.c).Pairwise fun x y => DL.tLe x y = true := by
    rw [h]
    exact sort_sorted _
  rw [List.nodup_iff_pairwise_ne, List.pairwise_map] at nd
  rw [List.pairwise_map] at so
  refine List.Pairwise.imp₂ (fun {a b} hab hle => ?_) nd so
  rcases tLt_total hab with z | z
  · exact z
  · have hle : (!DL.tLt b.c a.c) = true := hle
    rw [z] at hle
    cases hle
theorem law_is_table_ok {F : List En} {S : Sto} (hn : ∀ e ∈ F, nmOk e.s) (l0 : 1 ≤ F.length) (l1 : F.length ≤ 30) : (g_law_is_table [tbD F] S).W fun d S' => ∃ b, d = .bl b ∧ (b = true → Tb F) ∧ Px S S' := by
  unfold g_law_is_table gOf
  rw [R.W_ret]
  show (b_law_is_table [some (tbD F), none, none] S).W _ _
  unfold b_law_is_table
  refine W_seq (fun e S' => S = S' ∧ e = [some (tbD F), none, none]) ?_ ?_
  · simp only [ev, isTup, len_tup, List.length_map, DL.lt_ok, DL.gt_ok, Bool.not_true, decide_eq_false (show ¬ (F.length : Int) < 1 by omega), decide_eq_false (show ¬ (30 : Int) < (F.length : Int) by omega), and_self]
  rintro _ _ ⟨rfl, rfl⟩
  refine W_seq (fun e S' => Px S S' ∧ (∃ x1, e = [some (tbD F), x1, none]) ∧ ∀ e ∈ F, e.ok) ?_ ?_
  · simp only [sFor, ev, gIt]
    refine W_for (fun i e S' => Px S S' ∧ (∃ x1, e = [some (tbD F), x1, none]) ∧ ∀ e ∈ F.take i, e.ok) _ (fun _ _ _ _ => trivial) ?_ ?_ ⟨Px.refl _, ⟨_, rfl⟩, by simp⟩
    · rintro i x env S1 hx ⟨px, ⟨x1, rfl⟩, ok⟩
      rw [List.getElem?_map] at hx
      obtain ⟨e, he, rfl⟩ := Option.map_eq_some_iff.mp hx
      have me := List.mem_of_getElem? he
      have ht : F.take (i + 1) = F.take i ++ [e] := by rw [List.take_add_one, he]; rfl
      refine ⟨_, rfl, ?_⟩
      have i0 : ∀ Z, dIx (enD e) (.int 0) Z = .ok (.str e.s) Z := fun _ => rfl
      have i1 : ∀ Z, dIx (enD e) (.int 1) Z = .ok (.int e.h) Z := fun _ => rfl
      have i2 : ∀ Z, dIx (enD e) (.int 2) Z = .ok (.int e.p) Z := fun _ => rfl
      have it : ∀ Z, bIsi "tuple" (enD e) Z = .ok (.bl true) Z := fun _ => isTup
      have le : ∀ Z, bLen (.rf (enD e)) Z = .ok (.int 3) Z := fun _ => len_tup
      refine W_seq (fun e' S' => Px S1 S' ∧ e' = [some (tbD F), some (enD e), none]) ?_ ?_
      · simp only [aName, ev, it, le, i0, Bool.not_true, DL.ne_int, decide_true]
        refine (law_is_name_ok (hn e me)).mono ?_
        rintro _ S2 ⟨rfl, px2⟩
        simp only [ev, Bool.not_true]
        exact ⟨px2, trivial⟩
      rintro _ S2 ⟨px2, rfl⟩
      have p9 : ∀ Z : Sto, dPow (.int 10) (.int 9) Z = .ok (.int (10 ^ 9)) Z := fun Z => pow_ok (j := 9) (by decide) (by decide)
      have p6 : ∀ Z : Sto, dPow (.int 10) (.int 6) Z = .ok (.int (10 ^ 6)) Z := fun Z => pow_ok (j := 6) (by decide) (by decide)
      have pxa := px.trans px2
      cases q1 : (decide ((0 : Int) ≤ e.h) && decide (e.h ≤ 10 ^ 9)) with
      | false =>
        simp only [ev, i1, p9, law_within_ok, q1, if_true, Bool.not_false]
        exact ⟨false, rfl, fun z => (nomatch z), pxa⟩
      | true =>
        cases q2 : (decide ((0 : Int) ≤ e.p) && decide (e.p ≤ 10 ^ 6)) with
        | false =>
          simp only [ev, i1, i2, p9, p6, law_within_ok, q1, q2, if_true, Bool.not_false, Bool.not_true]
          exact ⟨false, rfl, fun z => (nomatch z), pxa⟩
        | true =>
          simp only [ev, i1, i2, p9, p6, law_within_ok, q1, q2, if_true, Bool.not_true]
          refine ⟨pxa, ⟨_, rfl⟩, fun y my => ?_⟩
          rw [ht] at my
          rcases List.mem_append.mp my with my | my
          · exact ok y my
          · rw [List.mem_singleton.mp my]
            simp only [Bool.and_eq_true, decide_eq_true_eq] at q1 q2
            exact ⟨hn e me, q1.1, q1.2, q2.1, q2.2⟩
    · rintro env S1 ⟨px, hx1, ok⟩
      rw [List.length_map, List.take_length] at ok
      exact ⟨px, hx1, ok⟩
  rintro _ S1 ⟨px1, ⟨x1, rfl⟩, ok⟩
  have c1 : fComp (aName 1) bT (eSl (eVar 1) eNo (eSo (eC (.int 2)))) Tru [some (tbD F), none, none] (F.map enD) S1 = .ok ((F.map En.c).map tuD) S1 := by
    have := comp_pure (asg := aName 1) (ft := bT) (fe := eSl (eVar 1) eNo (eSo (eC (.int 2)))) (g := Tru) (env := [some (tbD F), none, none]) (S := S1) trivial enD (fun _ => true) (fun e => tuD e.c) F fun e m => ⟨_, rfl, rfl, fun _ => ?_⟩
    · rw [this, List.filter_eq_self.mpr (fun _ _ => rfl), List.map_map]
      rfl
    · simp only [aName, ev, R.bind, cut2]
  refine W_seq (fun e S' => S1 ++ [.lst ((F.map En.c).map tuD)] = S' ∧ e = [some (tbD F), x1, some (.ref S1.length)]) ?_ ?_
  · simp only [ev, gIt, wipeE, sml (show (F.map enD).length ≤ 1000000 by rw [List.length_map]; omega), if_true]
    rw [c1]
    exact ⟨rfl, rfl⟩
  rintro _ _ ⟨rfl, rfl⟩
  have a1 : (S1 ++ [O.lst ((F.map En.c).map tuD)])[S1.length]? = some (.lst ((F.map En.c).map tuD)) := at_snoc
  have ss : bSortSet (.rf (.ref S1.length)) (S1 ++ [.lst ((F.map En.c).map tuD)]) = .ok (((dd (F.map En.c)).mergeSort DL.tLe).map tuD) (S1 ++ [.lst ((F.map En.c).map tuD)]) := by
    unfold bSortSet
    simp only [getB, getA, a1, R.bind, tups_tuD]
    rw [if_pos ⟨by rw [List.length_map]; omega, ck_rows _⟩]
  have tk : ∀ t ∈ F.map En.c, tOk t = true := fun t m => by
    obtain ⟨e, me, rfl⟩ := List.mem_map.mp m
    exact En.cOk (ok e me)
  have tk2 : ∀ t ∈ (dd (F.map En.c)).mergeSort DL.tLe, tOk t = true := fun t m => tk t (dd_mem.mp ((List.mergeSort_perm _ _).mem_iff.mp m))
  have px2 := Px.snoc (S1 ++ [O.lst ((F.map En.c).map tuD)]) (.lst (((dd (F.map En.c)).mergeSort DL.tLe).map tuD))
  have eq : dEq (.ref S1.length) (.ref (S1 ++ [O.lst ((F.map En.c).map tuD)]).length) (S1 ++ [O.lst ((F.map En.c).map tuD)] ++ [.lst (((dd (F.map En.c)).mergeSort DL.tLe).map tuD)]) = .ok (.bl (decide (F.map En.c = (dd (F.map En.c)).mergeSort DL.tLe))) (S1 ++ [O.lst ((F.map En.c).map tuD)] ++ [.lst (((dd (F.map En.c)).mergeSort DL.tLe).map tuD)]) := by
    unfold dEq
    rw [dEqB_l (px2.at a1) at_snoc tk tk2]
    rfl
  simp only [ev, ss, eq]
  exact ⟨_, rfl, fun z => ⟨l0, l1, ok, inc_of (of_decide_eq_true z)⟩, (px1.trans (Px.snoc _ _)).trans px2⟩
end K03

namespace K03
open PySem PySem.Spec PyProof.Rows L2 DL

/-- the entries under way -/
structure Oth (d m f : Nat) (xs : List Str) (F : List En) (S : Sto) : Prop where
  dr : Dr d S
  nm : S[m]? = some (.lst (xs.map .str))
  at_ : S[f]? = some (.lst (F.map enD))
  lo : 1 ≤ F.length
  ss : ∀ e ∈ F, e.s ∈ xs
section
variable {d m f : Nat} {xs : List Str} {F F' : List En} {S S' : Sto}
theorem Oth.put (h : Oth d m f xs F S) (hd : f ≠ d) (hm : f ≠ m) (lo : 1 ≤ F'.length) (ss : ∀ e ∈ F', e.s ∈ xs) : Oth d m f xs F' (S.set f (.lst (F'.map enD))) :=
  ⟨h.dr.elim fun a ⟨b, h1, h2⟩ => ⟨a, b, (List.getElem?_set_ne hd).trans h1, h2⟩, (List.getElem?_set_ne hm).trans h.nm, by rw [List.getElem?_set_self (List.getElem?_eq_some_iff.mp h.at_).1], lo, ss⟩
theorem Oth.dx (h : Oth d m f xs F S) (hd : f ≠ d) (hm : m ≠ d) (x : Dx d S S') : Oth d m f xs F S' := ⟨x.dr, x.at hm h.nm, x.at hd h.at_, h.lo, h.ss⟩
theorem Oth.ix (h : Oth d m f xs F S) {a : Nat} (ha : a < F.length) : dIx (.ref f) (.int (a : Nat)) S = .ok (enD F[a]) S := by
  simp only [dIx, h.at_]
  rw [atI_nat' (by rw [List.length_map]; exact ha)]
  simp [R.ofO]
theorem Oth.ixn (h : Oth d m f xs F S) {a : Nat} (ha : a < xs.length) : dIx (.ref m) (.int (a : Nat)) S = .ok (.str xs[a]) S := by
  simp only [dIx, h.nm]
  rw [atI_nat' (by rw [List.length_map]; exact ha)]
  simp [R.ofO]
theorem ixN_nat {n a : Nat} (ha : a < n) : ixN n (a : Int) = some a := by
  unfold ixN
  simp
  omega
theorem Oth.wr (h : Oth d m f xs F S) {a : Nat} (ha : a < F.length) (e : En) : putIt (.ref f) (.int (a : Nat)) (enD e) S = some (S.set f (.lst ((F.set a e).map enD))) := by
  simp only [putIt, h.at_, List.length_map, ixN_nat ha, List.map_set]
theorem map_erase {α β : Type} (g : α → β) : ∀ (l : List α) (i : Nat), (l.map g).eraseIdx i = (l.eraseIdx i).map g
  | [], _ => rfl
  | a :: l, 0 => rfl
  | a :: l, i + 1 => by simp [List.eraseIdx_cons_succ, map_erase g l i]
theorem Oth.pop (h : Oth d m f xs F S) {a : Nat} (ha : a < F.length) (hs : a < 1000) : mPop (.ref f) [.int (a : Nat)] S = .ok (enD F[a]) (S.set f (.lst ((F.eraseIdx a).map enD))) := by
  have b : (decide (-(2 ^ 63) ≤ (a : Int)) && decide ((a : Int) < 2 ^ 63)) = true := by
    rw [Bool.and_eq_true]
    exact ⟨decide_eq_true (by omega), decide_eq_true (by omega)⟩
  have e : (F.map enD)[a]? = some (enD F[a]) := by rw [List.getElem?_map, List.getElem?_eq_getElem ha]; rfl
  simp only [mPop, h.at_, b, if_true, List.length_map, ixN_nat ha, e, map_erase]
end
theorem other_ok {d m : Nat} {S : Sto} {xs : List Str} {T : List En} (hd : Dr d S) (hmd : m ≠ d) (hm : S[m]? = some (.lst (xs.map .str))) (hxl : xs.length = 3) (hxs : ∀ x ∈ xs, nmOk x) (hT : Tb T) (few : T.length ≤ 9) (hTx : ∀ e ∈ T, e.s ∈ xs) :
    (g_law_other [.ref d, tbD T, .ref m] S).W fun r S' => ∃ U : List En, r = tbD U ∧ Tb U ∧ (∀ e ∈ U, e.s ∈ xs) ∧ Dr d S' ∧ S'[m]? = some (.lst (xs.map .str)) := by
  unfold g_law_other gOf
  rw [R.W_ret]
  show (b_law_other [some (.ref d), some (tbD T), some (.ref m), none, none, none, none, none] S).W _ _
  unfold b_law_other
  have hdl := hd.lt
  have hml : m < S.length := (List.getElem?_eq_some_iff.mp hm).1
  generalize hf : S.length = f at *
  have fd : f ≠ d := by omega
  have fm : f ≠ m := by omega
  refine W_seq (fun e S' => Oth d m f xs T S' ∧ e = [some (.ref d), some (tbD T), some (.ref m), some (.ref f), none, none, none, none]) ?_ ?_
  · have dx := Dx.snoc hd (.lst (T.map enD))
    have bl : bList (.rf (tbD T)) S = .ok (T.map enD) S := rfl
    simp only [ev, bl, hf]
    exact ⟨⟨dx.dr, dx.at hmd hm, by rw [← hf]; exact at_snoc, hT.lo, hTx⟩, by first | rfl | trivial⟩
  rintro _ S1 ⟨o1, rfl⟩
  refine W_seq (fun e S' => ∃ (F : List En) (x4 x5 x6 x7 : Option D), Oth d m f xs F S' ∧ F.length ≤ 11 ∧ e = [some (.ref d), some (tbD T), some (.ref m), some (.ref f), x4, x5, x6, x7]) ?_ ?_
  · simp only [sFor, ev, if_true]
    refine (draw_ok o1.dr (by decide) (by decide)).mono ?_
    rintro _ S2 ⟨v, rfl, v0, v1, _, dx⟩
    obtain ⟨tn, rfl⟩ := Int.eq_ofNat_of_zero_le v0
    have o2 := o1.dx fd hmd dx
    have e10 : (1 : Int) + (tn : Int) = ((1 + tn : Nat) : Int) := by omega
    simp only [ev, e10, rOk_nat (show 1 + tn ≤ 1000000 by omega), if_true]
    refine W_for (fun j e S' => ∃ (F : List En) (x4 x5 x6 x7 : Option D), Oth d m f xs F S' ∧ F.length ≤ 9 + j ∧ e = [some (.ref d), some (tbD T), some (.ref m), some (.ref f), x4, x5, x6, x7]) _ (fun _ _ _ _ => trivial) ?_ ?_ ⟨T, _, _, _, _, o2, few, rfl⟩
    · rintro j x env S3 hx ⟨F, x4, x5, x6, x7, o3, fF, rfl⟩
      rw [rngL_nat] at hx
      obtain ⟨hj, rfl⟩ := rgK_get hx
      have lo3 := o3.lo
      refine ⟨_, rfl, ?_⟩
      refine W_seq (fun e S' => ∃ a : Nat, a < F.length ∧ Oth d m f xs F S' ∧ e = [some (.ref d), some (tbD T), some (.ref m), some (.ref f), some (.int (j : Nat)), some (.int (a : Nat)), x6, x7]) ?_ ?_
      · have ll := len_lst o3.at_
        rw [List.length_map] at ll
        simp only [aName, ev, ll, if_true]
        refine (draw_ok (many := (F.length : Int)) o3.dr (by omega) (by omega)).mono ?_
        rintro _ S4 ⟨v, rfl, v0, v1, _, dx⟩
        obtain ⟨a, rfl⟩ := Int.eq_ofNat_of_zero_le v0
        exact ⟨a, by omega, o3.dx fd hmd dx, rfl⟩
      rintro _ S4 ⟨a, ha, o4, rfl⟩
      refine W_seq (fun e S' => ∃ w : Int, Oth d m f xs F S' ∧ e = [some (.ref d), some (tbD T), some (.ref m), some (.ref f), some (.int (j : Nat)), some (.int (a : Nat)), some (.int w), x7]) ?_ ?_
      · simp only [ev, if_true]
        refine (draw_ok o4.dr (by decide) (by decide)).mono ?_
        rintro _ S5 ⟨v, rfl, v0, v1, _, dx⟩
        exact ⟨v, o4.dx fd hmd dx, by first | rfl | trivial⟩
      rintro _ S5 ⟨w, o5, rfl⟩
      have ll := len_lst o5.at_
      rw [List.length_map] at ll
      have i0 : ∀ Z, dIx (enD F[a]) (.int 0) Z = .ok (.str F[a].s) Z := fun _ => rfl
      have i1 : ∀ Z, dIx (enD F[a]) (.int 1) Z = .ok (.int F[a].h) Z := fun _ => rfl
      have i2 : ∀ Z, dIx (enD F[a]) (.int 2) Z = .ok (.int F[a].p) Z := fun _ => rfl
      have mF := List.getElem_mem ha
      have sF := o5.ss _ mF
      have setlen : ∀ e : En, 1 ≤ (F.set a e).length := fun e => by rw [List.length_set]; exact lo3
      have setss : ∀ e : En, e.s ∈ xs → ∀ y ∈ F.set a e, y.s ∈ xs := fun e he y my => by
        rcases List.mem_or_eq_of_mem_set my with my | rfl
        · exact o5.ss y my
        · exact he
      have fin : ∀ e : En, e.s ∈ xs → ∀ x7, ∃ (F' : List En) (x4 x5 x6 x7' : Option D), Oth d m f xs F' (S5.set f (.lst ((F.set a e).map enD))) ∧ F'.length ≤ 9 + (j + 1) ∧ [some (.ref d), some (tbD T), some (.ref m), some (.ref f), some (.int (j : Nat)), some (.int (a : Nat)), some (.int w), x7] = [some (.ref d), some (tbD T), some (.ref m), some (.ref f), x4, x5, x6, x7'] := fun e he x7 =>
        ⟨_, _, _, _, _, o5.put fd fm (setlen e) (setss e he), by rw [List.length_set]; omega, rfl⟩
      have rest : w ≠ 0 ∨ ¬ 1 < F.length → (sIf (eTst (eBin dEq (eVar 6) (eC (.int 1)))) (sPut (eVar 3) (eVar 5) (eBin dAdd (eSl (eBin dIx (eVar 3) (eVar 5)) eNo (eSo (eC (.int 2)))) (eTup (aCons (eBin dAdd (eBin dIx (eBin dIx (eVar 3) (eVar 5)) (eC (.int 2))) (eC (.int 1))) aNil)))) (sIf (eTst (eBin dEq (eVar 6) (eC (.int 2)))) (sPut (eVar 3) (eVar 5) (eTup (aCons (eBin dIx (eBin dIx (eVar 3) (eVar 5)) (eC (.int 0))) (aCons (eB (aCons (eC (.int 0)) (aCons (eBin dSub (eBin dIx (eBin dIx (eVar 3) (eVar 5)) (eC (.int 1))) (eC (.int 1))) aNil)) (g2 bMax2)) (aCons (eBin dIx (eBin dIx (eVar 3) (eVar 5)) (eC (.int 2))) aNil))))) (sIf (eTst (eBin dEq (eVar 6) (eC (.int 3)))) (sSeq (sSet 7 (eBin dAdd (eBin dAdd (eBin dIx (eBin dIx (eVar 3) (eVar 5)) (eC (.int 1))) (eC (.int 1))) (eCall 2 g_law_draw (aCons (eVar 0) (aCons (eC (.int 9)) aNil)))))
  (sExp (eBm "list" (eVar 3) (aCons (eTup (aCons (eBin dIx (eBin dIx (eVar 3) (eVar 5)) (eC (.int 0))) (aCons (eVar 7) (aCons (eBin dIx (eBin dIx (eVar 3) (eVar 5)) (eC (.int 2))) aNil)))) aNil) mAppend))) (sPut (eVar 3) (eVar 5) (eBin dAdd (eTup (aCons (eBin dIx (eVar 2) (eCall 2 g_law_draw (aCons (eVar 0) (aCons (eC (.int 3)) aNil)))) aNil)) (eSl (eBin dIx (eVar 3) (eVar 5)) (eSo (eC (.int 1))) eNo))))) [some (.ref d), some (tbD T), some (.ref m), some (.ref f), some (.int (j : Nat)), some (.int (a : Nat)), some (.int w), x7] S5).W (fun e S' => ∃ (F : List En) (x4 x5 x6 x7 : Option D), Oth d m f xs F S' ∧ F.length ≤ 9 + (j + 1) ∧ e = [some (.ref d), some (tbD T), some (.ref m), some (.ref f), x4, x5, x6, x7]) (fun r S' => ∃ U : List En, r = tbD U ∧ Tb U ∧ (∀ e ∈ U, e.s ∈ xs) ∧ Dr d S' ∧ S'[m]? = some (.lst (xs.map .str))) := by
        intro _
        by_cases w1 : w = 1
        · have ad : dAdd (.tup (F[a].c.map kD)) (.tup [.int (F[a].p + 1)]) S5 = .ok (enD ⟨F[a].s, F[a].h, F[a].p + 1⟩) S5 := by
            show (if (F[a].c.map kD).length + [D.int (F[a].p + 1)].length ≤ sizeLine then R.ok (D.tup (F[a].c.map kD ++ [D.int (F[a].p + 1)])) S5 else .bad) = _
            rw [if_pos (by rw [sizeLine_eq]; simp [En.c])]
            rfl
          simp only [ev, DL.eq_int, decide_eq_true w1, o5.ix ha, i2, cut2, add_ok, sml (by decide : 0 + 1 ≤ 1000000), List.length_cons, List.length_nil, if_true, ad, o5.wr ha]
          exact fin ⟨F[a].s, F[a].h, F[a].p + 1⟩ sF _
        by_cases w2 : w = 2
        · simp only [ev, DL.eq_int, decide_eq_false w1, decide_eq_true w2, o5.ix ha, i0, i1, i2, sub_ok, bMax2, sml (by decide : 0 + 1 + 1 + 1 ≤ 1000000), List.length_cons, List.length_nil, if_true]
          have := o5.wr ha ⟨F[a].s, max 0 (F[a].h - 1), F[a].p⟩
          rw [show (D.tup [D.str F[a].s, D.int (max 0 (F[a].h - 1)), D.int F[a].p]) = enD ⟨F[a].s, max 0 (F[a].h - 1), F[a].p⟩ from rfl, this]
          exact fin ⟨F[a].s, max 0 (F[a].h - 1), F[a].p⟩ sF _
        by_cases w3 : w = 3
        · simp only [ev, DL.eq_int, decide_eq_false w1, decide_eq_false w2, decide_eq_true w3, o5.ix ha, i1, add_ok, if_true]
          refine (draw_ok o5.dr (by decide) (by decide)).mono ?_
          rintro _ S6 ⟨v, rfl, v0, v1, _, dx⟩
          have o6 := o5.dx fd hmd dx
          have am := app_lst (y := enD ⟨F[a].s, F[a].h + 1 + v, F[a].p⟩) o6.at_ (by rw [List.length_map]; omega)
          simp only [ev, add_ok, o6.ix ha, i0, i2, sml (by decide : 0 + 1 + 1 + 1 ≤ 1000000), List.length_cons, List.length_nil, if_true, tyD_lst o6.at_]
          rw [show (D.tup [D.str F[a].s, D.int (F[a].h + 1 + v), D.int F[a].p]) = enD ⟨F[a].s, F[a].h + 1 + v, F[a].p⟩ from rfl, am]
          have em : F.map enD ++ [enD ⟨F[a].s, F[a].h + 1 + v, F[a].p⟩] = (F ++ [(⟨F[a].s, F[a].h + 1 + v, F[a].p⟩ : En)]).map enD := by rw [List.map_append]; rfl
          rw [em]
          simp only [ev]
          refine ⟨F ++ [(⟨F[a].s, F[a].h + 1 + v, F[a].p⟩ : En)], _, _, _, _, o6.put fd fm (by rw [List.length_append]; exact Nat.le_add_right_of_le lo3) (fun y my => ?_), by rw [List.length_append]; show _ + 1 ≤ _; omega, by first | rfl | trivial⟩
          rcases List.mem_append.mp my with my | my
          · exact o6.ss y my
          · rw [List.mem_singleton.mp my]
            exact sF
        · simp only [ev, DL.eq_int, decide_eq_false w1, decide_eq_false w2, decide_eq_false w3, if_true]
          refine (draw_ok o5.dr (by decide) (by decide)).mono ?_
          rintro _ S6 ⟨v, rfl, v0, v1, _, dx⟩
          have o6 := o5.dx fd hmd dx
          obtain ⟨b, rfl⟩ := Int.eq_ofNat_of_zero_le v0
          have hb : b < xs.length := by omega
          have cut : cutL (F[a].k.map kD) (some 1) none = [.int F[a].h, .int F[a].p] := by simp [cutL, HT.sIx, En.k, kD]
          have ad : dAdd (.tup [.str xs[b]]) (.tup [.int F[a].h, .int F[a].p]) S6 = .ok (enD ⟨xs[b], F[a].h, F[a].p⟩) S6 := by
            show (if [D.str xs[b]].length + [D.int F[a].h, D.int F[a].p].length ≤ sizeLine then R.ok (D.tup ([D.str xs[b]] ++ [D.int F[a].h, D.int F[a].p])) S6 else .bad) = _
            rw [if_pos (by rw [sizeLine_eq]; simp)]
            rfl
          simp only [ev, o6.ixn hb, o6.ix ha, cut, sml (by decide : 0 + 1 ≤ 1000000), List.length_cons, List.length_nil, if_true, ad, o6.wr ha]
          exact ⟨_, _, _, _, _, o6.put fd fm (setlen _) (setss _ (List.getElem_mem hb)), by rw [List.length_set]; omega, by first | rfl | trivial⟩
      by_cases w0 : w = 0
      · by_cases l1 : 1 < F.length
        · simp only [ev, DL.eq_int, decide_eq_true w0, ll, DL.gt_ok, decide_eq_true (show (1 : Int) < (F.length : Int) by omega), tyD_lst o5.at_, if_true, o5.pop ha (by omega)]
          exact ⟨F.eraseIdx a, _, _, _, _, o5.put fd fm (by rw [List.length_eraseIdx_of_lt ha]; omega) (fun y my => o5.ss y (List.mem_of_mem_eraseIdx my)), by rw [List.length_eraseIdx_of_lt ha]; omega, by first | rfl | trivial⟩
        · have := rest (.inr l1)
          simp only [ev, DL.eq_int, decide_eq_true w0, ll, DL.gt_ok, decide_eq_false (show ¬ (1 : Int) < (F.length : Int) by omega)] at this ⊢
          exact this
      · have := rest (.inl w0)
        simp only [ev, DL.eq_int, decide_eq_false w0] at this ⊢
        exact this
    · rintro env S3 ⟨F, x4, x5, x6, x7, o3, fF, rfl⟩
      have hr : (rngL 0 ((1 + tn : Nat) : Int)).length = 1 + tn := by rw [rngL_nat, rgK_len]
      rw [hr] at fF
      exact ⟨F, _, _, _, _, o3, by omega, rfl⟩
  rintro _ S2 ⟨F, x4, x5, x6, x7, o2, fF, rfl⟩
  have st : bSort (.rf (.ref f)) S2 = .ok (((srt F).map En.k).map tuD) S2 := by
    have e0 : F.map enD = (F.map En.k).map tuD := by rw [List.map_map]; rfl
    have e1 : (srt F).map En.k = (F.map En.k).mergeSort DL.tLe := List.map_mergeSort fun a _ b _ => rfl
    rw [e1]
    refine bSort_t (ts := F.map En.k) _ (by simp only [getB, getA, o2.at_, R.bind, e0]) (fun x hx y hy => ?_) (fun x hx => ?_) (by rw [List.length_map, sizeLine_eq]; omega)
    · obtain ⟨u, _, rfl⟩ := List.mem_map.mp hx
      obtain ⟨w, _, rfl⟩ := List.mem_map.mp hy
      rfl
    · obtain ⟨u, _, rfl⟩ := List.mem_map.mp hx
      simp [En.k]
  have pm := srt_perm F
  have ssx : ∀ e ∈ srt F, e.s ∈ xs := fun e me => o2.ss e (pm.mem_iff.mp me)
  have lo2 := o2.lo
  have e2 : D.tup (((srt F).map En.k).map tuD) = tbD (srt F) := by rw [List.map_map]; rfl
  refine W_seq (fun e S' => S2 = S' ∧ e = [some (.ref d), some (tbD T), some (.ref m), some (tbD (srt F)), x4, x5, x6, x7]) ?_ ?_
  · simp only [ev, st, bTuple, getA, e2, and_self]
  rintro _ _ ⟨rfl, rfl⟩
  simp only [ev, if_true]
  refine (law_is_table_ok (F := srt F) (fun e me => hxs _ (ssx e me)) (by rw [pm.length_eq]; exact lo2) (by rw [pm.length_eq]; omega)).mono ?_
  rintro _ S3 ⟨b, rfl, hb, px⟩
  cases b with
  | true =>
    simp only [ev]
    exact ⟨srt F, rfl, hb rfl, ssx, (px.dr o2.dr).dr, px.at o2.nm⟩
  | false =>
    simp only [ev, if_true]
    refine (table_drawn (px.dr o2.dr).dr hmd (px.at o2.nm) (by omega) (by omega) hxs).mono ?_
    rintro _ S4 ⟨U, rfl, hU, _, hUx, dx⟩
    exact ⟨U, rfl, hU, hUx, dx.dr, dx.at hmd (px.at o2.nm)⟩
end K03

namespace K03
open PySem PySem.Spec PyProof.Rows L2 DL

theorem points_at_ok {T : List En} {S : Sto} {s : Str} {h : Int} (hT : Tb T) (hs : PyData.strOk s = true) : g_points_at [tbD T, .str s, .int h] S = .ok (oI (pin T s h)) S := by
  have : (g_points_at [tbD T, .str s, .int h] S).W fun d S' => d = oI (pin T s h) ∧ S' = S := by
    unfold g_points_at gOf
    rw [R.W_ret]
    show (b_points_at [some (tbD T), some (.str s), some (.int h)] S).W _ _
    simp only [b_points_at, ev, if_true, need_ok hT, points_ok hT.ok hs, and_self]
  obtain ⟨a, S', e, rfl, rfl⟩ := this.ok
  exact e
theorem eq_oi {a b : Option Int} {S : Sto} : dEq (oI a) (oI b) S = .ok (.bl (decide (a = b))) S := by
  unfold dEq
  rw [eqB_oi]
  rfl
theorem ne_kO {o : Option TKy} {S : Sto} (h : ∀ k, o = some k → tOk k = true) : dNe (kO o) (kO o) S = .ok (.bl false) S := by
  cases o with
  | none => rfl
  | some k => exact (ne_tup (h k rfl) (h k rfl)).trans (by simp)
theorem ne_nil {S : Sto} {r n : Nat} {L : List TKy} (h1 : S[r]? = some (.lst (L.map tuD))) (h2 : S[n]? = some (.lst [])) (h : ∀ t ∈ L, tOk t = true) : dNe (.ref r) (.ref n) S = .ok (.bl (!decide (L = []))) S := by
  unfold dNe
  rw [dEqB_l (ys := []) h1 h2 h (fun t z => (nomatch z))]
  rfl
theorem minT_at {S : Sto} {l : Nat} {L : List TKy} (h : S[l]? = some (.lst (L.map tuD))) (ne : L ≠ []) (ks : ∀ x ∈ L, ∀ y ∈ L, tSame x y = true) : bMinT (.rf (.ref l)) S = .ok (kO (least L)) S := by
  cases L with
  | nil => exact absurd rfl ne
  | cons t ts =>
    have tt := tups_tuD (t :: ts)
    unfold bMinT
    simp only [getB, getA, h, R.bind, tt]
    rw [if_pos ks]
    rfl
theorem law_holds : ∀ ns : List Int, ns.length ≤ 63 → ∃ S, g_law [.scr ns] [] = .ok (.bl true) S := by
  intro ns hns
  have : (g_law [.scr ns] []).W fun d _ => d = .bl true := by
    unfold g_law gOf
    rw [R.W_ret]
    show (b_law [some (.scr ns), none, none, none, none, none, none, none, none, none, none, none] []).W _ _
    unfold b_law
    obtain ⟨K, eK, hK, hk⟩ := rounds 30 ns.length (by decide)
    refine W_seq (fun _ _ => True) ?_ fun e S' _ => ?_
    · simp only [ev, len_scr, bMin2, bMax2]
      rw [show max (1 : Int) (min (30 : Int) (ns.length : Int)) = (K : Int) from eK]
      rw [rOk_nat (Nat.le_trans hK (by decide)), if_pos rfl]
      simp only [ev]
      refine W_for (fun i e S' => ∃ x1 x2 x3 x4 x5 x6 x7 x8 x9 x10 x11, e = [some (.scr ns), x1, x2, x3, x4, x5, x6, x7, x8, x9, x10, x11]) _ (fun _ _ _ _ => trivial) ?_ (fun _ _ _ => trivial) ⟨_, _, _, _, _, _, _, _, _, _, _, rfl⟩
      rintro i x env S hx ⟨x1, x2, x3, x4, x5, x6, x7, x8, x9, x10, x11, rfl⟩
      rw [rngL_nat] at hx
      obtain ⟨hi, rfl⟩ := rgK_get hx
      refine ⟨_, rfl, ?_⟩
      refine W_seq (fun e S' => ∃ d : Nat, Dr d S' ∧ e = [some (.scr ns), some (.int (i : Nat)), some (.ref d), x3, x4, x5, x6, x7, x8, x9, x10, x11]) ?_ ?_
      · simp only [aName, ev]
        refine (draws_ok (Nat.le_trans (Nat.le_of_lt hi) hK) (hk i hi)).mono ?_
        rintro d S1 ⟨a, b, rfl, rfl, h1, h2, h3⟩
        exact ⟨_, ⟨a, b, at_snoc, h1, h2, h3⟩, rfl⟩
      rintro _ S1 ⟨d, hd, rfl⟩
      refine W_seq (fun e S' => ∃ (m : Nat) (xs : List Str), Dr d S' ∧ m ≠ d ∧ S'[m]? = some (.lst (xs.map .str)) ∧ xs.length = 3 ∧ (∀ x ∈ xs, nmOk x) ∧ e = [some (.scr ns), some (.int (i : Nat)), some (.ref d), some (.ref m), x4, x5, x6, x7, x8, x9, x10, x11]) ?_ ?_
      · simp only [ev]
        refine (names_ok (many := 3) hd (by decide)).mono ?_
        rintro _ _ ⟨xs, S2, rfl, rfl, e1, e2, e3, e4⟩
        exact ⟨_, xs, e2.dr.snoc _, by have := hd.lt; omega, by rw [← e1]; exact at_snoc, e3, e4, rfl⟩
      rintro _ S2 ⟨m, xs, hd2, hmd, hm, hxl, hxs, rfl⟩
      refine W_seq (fun e S' => ∃ T, Tb T ∧ T.length ≤ 9 ∧ (∀ e ∈ T, e.s ∈ xs) ∧ Dr d S' ∧ S'[m]? = some (.lst (xs.map .str)) ∧ e = [some (.scr ns), some (.int (i : Nat)), some (.ref d), some (.ref m), some (tbD T), x5, x6, x7, x8, x9, x10, x11]) ?_ ?_
      · simp only [ev, if_true]
        refine (table_drawn hd2 hmd hm (by omega) (by omega) hxs).mono ?_
        rintro _ S3 ⟨T, rfl, hT, few, hTx, dx⟩
        exact ⟨T, hT, few, hTx, dx.dr, dx.at hmd hm, by first | rfl | trivial⟩
      rintro _ S3 ⟨T, hT, few, hTx, hd3, hm3, rfl⟩
      refine W_seq (fun e S' => ∃ U, Tb U ∧ (∀ e ∈ U, e.s ∈ xs) ∧ S'[m]? = some (.lst (xs.map .str)) ∧ e = [some (.scr ns), some (.int (i : Nat)), some (.ref d), some (.ref m), some (tbD T), some (tbD U), x6, x7, x8, x9, x10, x11]) ?_ ?_
      · simp only [ev, if_true]
        refine (other_ok hd3 hmd hm3 hxl hxs hT few hTx).mono ?_
        rintro _ S4 ⟨U, rfl, hU, hUx, _, hm4⟩
        exact ⟨U, hU, hUx, hm4, by first | rfl | trivial⟩
      rintro _ S4 ⟨U, hU, hUx, hm4, rfl⟩
      have hTU : ∀ e ∈ T ++ U, e.s ∈ xs := fun e me => by
        rcases List.mem_append.mp me with me | me
        · exact hTx e me
        · exact hUx e me
      have tl := hT.hi
      have ul := hU.hi
      refine W_seq (fun e S' => ∃ l : Nat, m ≠ l ∧ S'[m]? = some (.lst (xs.map .str)) ∧ S'[l]? = some (.lst []) ∧ e = [some (.scr ns), some (.int (i : Nat)), some (.ref d), some (.ref m), some (tbD T), some (tbD U), some (.ref l), x7, x8, x9, x10, x11]) ?_ ?_
      · have ml : m < S4.length := (List.getElem?_eq_some_iff.mp hm4).1
        simp only [ev, sml (by decide : 0 ≤ 1000000), List.length_nil, if_true]
        exact ⟨S4.length, by omega, (Px.snoc _ _).at hm4, at_snoc, by first | rfl | trivial⟩
      rintro _ S5 ⟨l, hml, hm5, hl5, rfl⟩
      refine W_seq (fun e S' => ∃ (L : List TKy) (y7 y8 y9 y10 : Option D), S'[m]? = some (.lst (xs.map .str)) ∧ S'[l]? = some (.lst (L.map tuD)) ∧ IsDue T U xs L ∧ e = [some (.scr ns), some (.int (i : Nat)), some (.ref d), some (.ref m), some (tbD T), some (tbD U), some (.ref l), y7, y8, y9, y10, x11]) ?_ ?_
      · have cat : ∀ S', dAdd (tbD T) (tbD U) S' = .ok (tbD (T ++ U)) S' := fun S' => by
          show (if (T.map enD).length + (U.map enD).length ≤ sizeLine then R.ok (D.tup (T.map enD ++ U.map enD)) S' else .bad) = _
          rw [if_pos (by rw [List.length_map, List.length_map, sizeLine_eq]; omega), ← List.map_append]
        simp only [sFor, ev, cat, gIt]
        refine W_for (fun j e S' => ∃ (L : List TKy) (y7 y8 y9 y10 : Option D), S'[m]? = some (.lst (xs.map .str)) ∧ S'[l]? = some (.lst (L.map tuD)) ∧ (∀ k, k ∈ L ↔ ∃ e ∈ (T ++ U).take j, ∃ s ∈ xs, k = q e.h s ∧ pin T s e.h ≠ pin U s e.h) ∧ L.length ≤ 3 * j ∧ e = [some (.scr ns), some (.int (i : Nat)), some (.ref d), some (.ref m), some (tbD T), some (tbD U), some (.ref l), y7, y8, y9, y10, x11]) _ (fun _ _ _ _ => trivial) ?_ ?_ ⟨[], _, _, _, _, hm5, hl5, by simp, by decide, rfl⟩
        · rintro j x env S6 hx ⟨L, y7, y8, y9, y10, hm6, hl6, hL, fL, rfl⟩
          rw [List.getElem?_map] at hx
          obtain ⟨e, he, rfl⟩ := Option.map_eq_some_iff.mp hx
          have hj : j < (T ++ U).length := (List.getElem?_eq_some_iff.mp he).1
          rw [List.length_append] at hj
          have ht : (T ++ U).take (j + 1) = (T ++ U).take j ++ [e] := by rw [List.take_add_one, he]; rfl
          refine ⟨[some (.scr ns), some (.int (i : Nat)), some (.ref d), some (.ref m), some (tbD T), some (tbD U), some (.ref l), some (.str e.s), some (.int e.h), some (.int e.p), y10, x11], rfl, ?_⟩
          simp only [sFor, ev, gIt, hm6]
          refine W_for (fun w e' S' => ∃ (L' : List TKy) (y10 : Option D), S'[m]? = some (.lst (xs.map .str)) ∧ S'[l]? = some (.lst (L'.map tuD)) ∧ (∀ k, k ∈ L' ↔ k ∈ L ∨ ∃ s ∈ xs.take w, k = q e.h s ∧ pin T s e.h ≠ pin U s e.h) ∧ L'.length ≤ 3 * j + w ∧ e' = [some (.scr ns), some (.int (i : Nat)), some (.ref d), some (.ref m), some (tbD T), some (tbD U), some (.ref l), some (.str e.s), some (.int e.h), some (.int e.p), y10, x11]) _ (fun _ _ _ ⟨_, _, z, _⟩ => z) ?_ ?_ ⟨L, _, hm6, hl6, by simp, fL, rfl⟩
          · rintro w x env S7 hx ⟨L', y10, hm7, hl7, hL', fL', rfl⟩
            rw [List.getElem?_map] at hx
            obtain ⟨s, hs, rfl⟩ := Option.map_eq_some_iff.mp hx
            have hw : w < xs.length := (List.getElem?_eq_some_iff.mp hs).1
            have ms := List.mem_of_getElem? hs
            have hts : xs.take (w + 1) = xs.take w ++ [s] := by rw [List.take_add_one, hs]; rfl
            have so := (hxs s ms).ok
            refine ⟨[some (.scr ns), some (.int (i : Nat)), some (.ref d), some (.ref m), some (tbD T), some (tbD U), some (.ref l), some (.str e.s), some (.int e.h), some (.int e.p), some (.str s), x11], rfl, ?_⟩
            simp only [ev, if_true]
            refine (law_points_ok hT.ok (by omega) so).mono ?_
            rintro _ S8 ⟨rfl, px8⟩
            refine (law_points_ok hU.ok (by omega) so).mono ?_
            rintro _ S9 ⟨rfl, px9⟩
            have px := px8.trans px9
            have hm9 := px.at hm7
            have hl9 := px.at hl7
            by_cases un : pin T s e.h = pin U s e.h
            · simp only [ev, ne_oi, decide_eq_true un, Bool.not_true]
              refine ⟨L', _, hm9, hl9, fun k => ?_, by omega, by first | rfl | trivial⟩
              rw [hL', hts]
              constructor
              · rintro (z | ⟨s', m', z⟩)
                · exact .inl z
                · exact .inr ⟨s', List.mem_append_left _ m', z⟩
              · rintro (z | ⟨s', m', z⟩)
                · exact .inl z
                · rcases List.mem_append.mp m' with m' | m'
                  · exact .inr ⟨s', m', z⟩
                  · rw [List.mem_singleton.mp m'] at z
                    exact absurd un z.2
            · have am := app_lst (y := tuD (q e.h s)) hl9 (by rw [List.length_map]; omega)
              simp only [ev, ne_oi, decide_eq_false un, Bool.not_false, tyD_lst hl9, sml (by decide : 0 + 1 + 1 ≤ 1000000), List.length_cons, List.length_nil, if_true]
              rw [show (D.tup [D.int e.h, D.str s]) = tuD (q e.h s) from rfl, am]
              have em : L'.map tuD ++ [tuD (q e.h s)] = (L' ++ [q e.h s]).map tuD := by rw [List.map_append]; rfl
              rw [em]
              simp only [ev]
              refine ⟨L' ++ [q e.h s], _, (List.getElem?_set_ne (Ne.symm hml)).trans hm9, by rw [List.getElem?_set_self (List.getElem?_eq_some_iff.mp hl9).1], fun k => ?_, by rw [List.length_append]; show _ + 1 ≤ _; omega, by first | rfl | trivial⟩
              rw [List.mem_append, List.mem_singleton, hL', hts]
              constructor
              · rintro ((z | ⟨s', m', z⟩) | z)
                · exact .inl z
                · exact .inr ⟨s', List.mem_append_left _ m', z⟩
                · exact .inr ⟨s, by simp, z, un⟩
              · rintro (z | ⟨s', m', z⟩)
                · exact .inl (.inl z)
                · rcases List.mem_append.mp m' with m' | m'
                  · exact .inl (.inr ⟨s', m', z⟩)
                  · rw [List.mem_singleton.mp m'] at z
                    exact .inr z.1
          · rintro env S7 ⟨L', y10, hm7, hl7, hL', fL', rfl⟩
            rw [List.length_map, List.take_length] at hL'
            rw [List.length_map] at fL'
            refine ⟨L', _, _, _, _, hm7, hl7, fun k => ?_, by omega, rfl⟩
            rw [hL', hL, ht]
            constructor
            · rintro (⟨e', m', z⟩ | z)
              · exact ⟨e', List.mem_append_left _ m', z⟩
              · exact ⟨e, by simp, z⟩
            · rintro ⟨e', m', z⟩
              rcases List.mem_append.mp m' with m' | m'
              · exact .inl ⟨e', m', z⟩
              · rw [List.mem_singleton.mp m'] at z
                exact .inr z
        · rintro env S6 ⟨L, y7, y8, y9, y10, hm6, hl6, hL, fL, rfl⟩
          rw [List.length_map, List.take_length] at hL
          exact ⟨L, _, _, _, _, hm6, hl6, hL, rfl⟩
      rintro _ S6 ⟨L, y7, y8, y9, y10, hm6, hl6, hL, rfl⟩
      have qf := least_ok hT.inc hU.inc hTU hL
      have tk : ∀ t ∈ L, tOk t = true := fun t mt => by
        obtain ⟨e, me, s, ms, rfl, _⟩ := (hL t).mp mt
        simp [tOk, q, DL.kOk, (hxs s ms).ok]
      have tko : ∀ k, least L = some k → tOk k = true := fun k hk => by
        cases L with
        | nil => cases hk
        | cons t ts =>
          cases hk
          exact tk _ (mnT_mem ts t)
      refine W_seq (fun e S' => S'[m]? = some (.lst (xs.map .str)) ∧ S'[l]? = some (.lst (L.map tuD)) ∧ e = [some (.scr ns), some (.int (i : Nat)), some (.ref d), some (.ref m), some (tbD T), some (tbD U), some (.ref l), y7, y8, y9, y10, some (kO (least L))]) ?_ ?_
      · simp only [ev, if_true]
        refine (parting_ok hT hU).mono ?_
        rintro _ S7 ⟨rfl, px⟩
        rw [qf]
        exact ⟨px.at hm6, px.at hl6, by first | rfl | trivial⟩
      rintro _ S7 ⟨hm7, hl7, rfl⟩
      refine W_seq (fun e S' => S'[m]? = some (.lst (xs.map .str)) ∧ e = [some (.scr ns), some (.int (i : Nat)), some (.ref d), some (.ref m), some (tbD T), some (tbD U), some (.ref l), y7, y8, y9, y10, some (kO (least L))]) ?_ ?_
      · have pk := Px.snoc S7 (.lst [])
        have nn := ne_nil (pk.at hl7) at_snoc tk
        have rest : ∀ S8, Px S7 S8 → (sIf (bOr (eTst (eBin dNe (eCall 2 g_parting (aCons (eVar 5) (aCons (eVar 4) aNil))) (eVar 11))) (eTst (eBin dNotN (eCall 2 g_parting (aCons (eVar 4) (aCons (eVar 4) aNil))) (eC .non)))) (sRet (eC (.bl false))) sNx [some (.scr ns), some (.int (i : Nat)), some (.ref d), some (.ref m), some (tbD T), some (tbD U), some (.ref l), y7, y8, y9, y10, some (kO (least L))] S8).W (fun e S' => S'[m]? = some (.lst (xs.map .str)) ∧ e = [some (.scr ns), some (.int (i : Nat)), some (.ref d), some (.ref m), some (tbD T), some (tbD U), some (.ref l), y7, y8, y9, y10, some (kO (least L))]) (fun d _ => d = .bl true) := fun S8 px8 => by
          simp only [ev, if_true]
          refine (parting_ok hU hT).mono ?_
          rintro _ S9 ⟨rfl, px9⟩
          rw [find_swap hT.inc hU.inc, qf]
          simp only [ev, ne_kO tko, if_true]
          refine (parting_ok hT hT).mono ?_
          rintro _ S10 ⟨rfl, px10⟩
          rw [find_self]
          simp only [ev, kO, show ∀ S', dNotN .non .non S' = .ok (.bl false) S' from fun _ => rfl]
          exact ⟨((px8.trans px9).trans px10).at hm7, by first | rfl | trivial⟩
        have r8 := rest _ pk
        by_cases z : L = []
        · have n1 : ∀ Z, dNe (kO (least L)) .non Z = .ok (.bl false) Z := fun Z => by
            subst z
            rfl
          simp only [ev, nn, decide_eq_true z, Bool.not_true, n1, sml (by decide : 0 ≤ 1000000), List.length_nil, if_true] at r8 ⊢
          exact r8
        · have mi := minT_at (pk.at hl7) z fun x mx y my => by
            obtain ⟨_, _, _, _, rfl, _⟩ := (hL x).mp mx
            obtain ⟨_, _, _, _, rfl, _⟩ := (hL y).mp my
            rfl
          simp only [ev, nn, decide_eq_false z, Bool.not_false, mi, ne_kO tko, sml (by decide : 0 ≤ 1000000), List.length_nil, if_true] at r8 ⊢
          exact r8
      rintro _ S8 ⟨hm8, rfl⟩
      cases hk' : least L with
      | none =>
        simp only [ev, kO, show ∀ S', dNotN .non .non S' = .ok (.bl false) S' from fun _ => rfl]
        exact ⟨_, _, _, _, _, _, _, _, _, _, _, rfl⟩
      | some k =>
        rw [hk'] at qf
        obtain ⟨e, me, rfl, un, mn⟩ := first qf
        have nt : ∀ Z, dNotN (kO (some e.q)) .non Z = .ok (.bl true) Z := fun _ => rfl
        have ah := ahead hT.inc hU.inc (h := e.h) (s := e.s) qf
        have so : PyData.strOk e.s = true := (hxs _ (hTU e me)).ok
        have pT := fun Z => points_at_ok (S := Z) (h := e.h) hT so
        have pU := fun Z => points_at_ok (S := Z) (h := e.h) hU so
        have eA : aTup 2 (asCons (aName 8) (asCons (aName 7) asNil)) (kO (some e.q)) [some (.scr ns), some (.int (i : Nat)), some (.ref d), some (.ref m), some (tbD T), some (tbD U), some (.ref l), y7, y8, y9, y10, some (kO (some e.q))] = some [some (.scr ns), some (.int (i : Nat)), some (.ref d), some (.ref m), some (tbD T), some (tbD U), some (.ref l), some (.str e.s), some (.int e.h), y9, y10, some (kO (some e.q))] := rfl
        have c1 : fComp (aName 10) (eTst (eBin dNe (eCall 3 g_points_at (aCons (eVar 4) (aCons (eVar 10) (aCons (eBin dSub (eVar 8) (eC (.int 1))) aNil)))) (eCall 3 g_points_at (aCons (eVar 5) (aCons (eVar 10) (aCons (eBin dSub (eVar 8) (eC (.int 1))) aNil)))))) (eVar 10) (fun Z => Z[m]? = some (.lst (xs.map .str))) [some (.scr ns), some (.int (i : Nat)), some (.ref d), some (.ref m), some (tbD T), some (tbD U), some (.ref l), some (.str e.s), some (.int e.h), y9, none, some (kO (some e.q))] (xs.map .str) S8 = .ok [] S8 := by
          have := comp_pure (asg := aName 10) (ft := eTst (eBin dNe (eCall 3 g_points_at (aCons (eVar 4) (aCons (eVar 10) (aCons (eBin dSub (eVar 8) (eC (.int 1))) aNil)))) (eCall 3 g_points_at (aCons (eVar 5) (aCons (eVar 10) (aCons (eBin dSub (eVar 8) (eC (.int 1))) aNil)))))) (fe := eVar 10) (g := fun Z => Z[m]? = some (.lst (xs.map .str))) (env := [some (.scr ns), some (.int (i : Nat)), some (.ref d), some (.ref m), some (tbD T), some (tbD U), some (.ref l), some (.str e.s), some (.int e.h), y9, none, some (kO (some e.q))]) (S := S8) hm8 D.str (fun _ => false) D.str xs fun s ms => ⟨_, rfl, ?_, fun z => by cases z⟩
          · rw [this]
            simp
          · have pT := points_at_ok (S := S8) (h := e.h - 1) hT (hxs s ms).ok
            have pU := points_at_ok (S := S8) (h := e.h - 1) hU (hxs s ms).ok
            simp only [aName, ev, sub_ok, pT, pU, ne_oi, ah s, R.bind, if_true, decide_true, Bool.not_true]
        have nn := ne_nil (S := S8 ++ [.lst []] ++ [.lst []]) (r := S8.length) (n := (S8 ++ [O.lst []]).length) (L := []) ((Px.snoc _ _).at at_snoc) at_snoc (fun t z => (nomatch z))
        simp only [ev, nt, eA, pT, pU, eq_oi, decide_eq_false un, gIt, hm8, wipeE, List.length_map, sml (show xs.length ≤ 1000000 by omega), if_true]
        rw [c1]
        simp only [ev, sml (by decide : 0 ≤ 1000000), List.length_nil, if_true, nn, decide_true, Bool.not_true]
        exact ⟨_, _, _, _, _, _, _, _, _, _, _, rfl⟩
    · exact rfl
  obtain ⟨a, S', e, rfl⟩ := this.ok
  exact ⟨S', e⟩
end K03

namespace K03
open PySem PySem.Spec PyProof.Rows L2 DL
theorem all_mk {l : PySem.W.OpenLaw} {w : World} {K : PySem.W.Frag} {h : Heap} {mg : Str → Option Value} {fa : Addr} (X : K.In h) (G : h.Ns mainGlobals mg) (hfa : mg "law" = some (.ref fa))
    { f0 f1 f2 f3 f4 f5 f6 f7 f8 f9 f10 f11 f12 f13 f14 f15 f16 f17 : Addr} {od0 an0 od1 an1 od2 an2 od3 an3 od4 an4 od5 an5 od6 an6 od7 an7 od8 an8 od9 an9 od10 an10 od11 an11 od12 an12 od13 an13 od14 an14 od15 an15 od16 an16 od17 an17 : Option Addr} {sl0 sl1 sl2 sl3 sl4 sl5 sl6 sl7 sl8 sl9 sl10 sl11 sl12 sl13 sl14 sl15 sl16 sl17 : Array (Option Value)} {oc0 kV0 dc0 pm0 cd0 ct0 oc1 kV1 dc1 pm1 cd1 ct1 oc2 kV2 dc2 pm2 cd2 ct2 oc3 kV3 dc3 pm3 cd3 ct3 oc4 kV4 dc4 pm4 cd4 ct4 oc5 kV5 dc5 pm5 cd5 ct5 oc6 kV6 dc6 pm6 cd6 ct6 oc7 kV7 dc7 pm7 cd7 ct7 oc8 kV8 dc8 pm8 cd8 ct8 oc9 kV9 dc9 pm9 cd9 ct9 oc10 kV10 dc10 pm10 cd10 ct10 oc11 kV11 dc11 pm11 cd11 ct11 oc12 kV12 dc12 pm12 cd12 ct12 oc13 kV13 dc13 pm13 cd13 ct13 oc14 kV14 dc14 pm14 cd14 ct14 oc15 kV15 dc15 pm15 cd15 ct15 oc16 kV16 dc16 pm16 cd16 ct16 oc17 kV17 dc17 pm17 cd17 ct17 : Value} {tLETTERS tMOST_ENTRIES tMOST_HOUR tMOST_POINTS : Tok} {xNoTable xRailError xNoForm : Addr}
    (a0 : PySem.W.nsIn K mainGlobals "is_within" = some (some (.ref f0)))
    (l0 : K.lookup f0 = some ⟨oc0, od0, .func (PySem.W.fnOf "is_within" "is_within" (defArgs s_is_within) (defBody s_is_within) (defScope s_is_within) .none kV0 dc0 pm0 an0 cd0 ct0), sl0⟩)
    (c0 : PySem.W.codeIn K cd0 "is_within" = true)
    (k0 : PySem.W.keepIn K (.ref f0) = true)
    (a1 : PySem.W.nsIn K mainGlobals "is_name" = some (some (.ref f1)))
    (l1 : K.lookup f1 = some ⟨oc1, od1, .func (PySem.W.fnOf "is_name" "is_name" (defArgs s_is_name) (defBody s_is_name) (defScope s_is_name) .none kV1 dc1 pm1 an1 cd1 ct1), sl1⟩)
    (c1 : PySem.W.codeIn K cd1 "is_name" = true)
    (k1 : PySem.W.keepIn K (.ref f1) = true)
    (a2 : PySem.W.nsIn K mainGlobals "is_entry" = some (some (.ref f2)))
    (l2 : K.lookup f2 = some ⟨oc2, od2, .func (PySem.W.fnOf "is_entry" "is_entry" (defArgs s_is_entry) (defBody s_is_entry) (defScope s_is_entry) .none kV2 dc2 pm2 an2 cd2 ct2), sl2⟩)
    (c2 : PySem.W.codeIn K cd2 "is_entry" = true)
    (k2 : PySem.W.keepIn K (.ref f2) = true)
    (a3 : PySem.W.nsIn K mainGlobals "is_table" = some (some (.ref f3)))
    (l3 : K.lookup f3 = some ⟨oc3, od3, .func (PySem.W.fnOf "is_table" "is_table" (defArgs s_is_table) (defBody s_is_table) (defScope s_is_table) .none kV3 dc3 pm3 an3 cd3 ct3), sl3⟩)
    (c3 : PySem.W.codeIn K cd3 "is_table" = true)
    (k3 : PySem.W.keepIn K (.ref f3) = true)
    (a4 : PySem.W.nsIn K mainGlobals "need_table" = some (some (.ref f4)))
    (l4 : K.lookup f4 = some ⟨oc4, od4, .func (PySem.W.fnOf "need_table" "need_table" (defArgs s_need_table) (defBody s_need_table) (defScope s_need_table) .none kV4 dc4 pm4 an4 cd4 ct4), sl4⟩)
    (c4 : PySem.W.codeIn K cd4 "need_table" = true)
    (k4 : PySem.W.keepIn K (.ref f4) = true)
    (a5 : PySem.W.nsIn K mainGlobals "points_in" = some (some (.ref f5)))
    (l5 : K.lookup f5 = some ⟨oc5, od5, .func (PySem.W.fnOf "points_in" "points_in" (defArgs s_points_in) (defBody s_points_in) (defScope s_points_in) .none kV5 dc5 pm5 an5 cd5 ct5), sl5⟩)
    (c5 : PySem.W.codeIn K cd5 "points_in" = true)
    (k5 : PySem.W.keepIn K (.ref f5) = true)
    (a6 : PySem.W.nsIn K mainGlobals "points_at" = some (some (.ref f6)))
    (l6 : K.lookup f6 = some ⟨oc6, od6, .func (PySem.W.fnOf "points_at" "points_at" (defArgs s_points_at) (defBody s_points_at) (defScope s_points_at) .none kV6 dc6 pm6 an6 cd6 ct6), sl6⟩)
    (c6 : PySem.W.codeIn K cd6 "points_at" = true)
    (k6 : PySem.W.keepIn K (.ref f6) = true)
    (a7 : PySem.W.nsIn K mainGlobals "parting" = some (some (.ref f7)))
    (l7 : K.lookup f7 = some ⟨oc7, od7, .func (PySem.W.fnOf "parting" "parting" (defArgs s_parting) (defBody s_parting) (defScope s_parting) .none kV7 dc7 pm7 an7 cd7 ct7), sl7⟩)
    (c7 : PySem.W.codeIn K cd7 "parting" = true)
    (k7 : PySem.W.keepIn K (.ref f7) = true)
    (a8 : PySem.W.nsIn K mainGlobals "_law_draw" = some (some (.ref f8)))
    (l8 : K.lookup f8 = some ⟨oc8, od8, .func (PySem.W.fnOf "_law_draw" "_law_draw" (defArgs s_law_draw) (defBody s_law_draw) (defScope s_law_draw) .none kV8 dc8 pm8 an8 cd8 ct8), sl8⟩)
    (c8 : PySem.W.codeIn K cd8 "_law_draw" = true)
    (k8 : PySem.W.keepIn K (.ref f8) = true)
    (a9 : PySem.W.nsIn K mainGlobals "_law_is_name" = some (some (.ref f9)))
    (l9 : K.lookup f9 = some ⟨oc9, od9, .func (PySem.W.fnOf "_law_is_name" "_law_is_name" (defArgs s_law_is_name) (defBody s_law_is_name) (defScope s_law_is_name) .none kV9 dc9 pm9 an9 cd9 ct9), sl9⟩)
    (c9 : PySem.W.codeIn K cd9 "_law_is_name" = true)
    (k9 : PySem.W.keepIn K (.ref f9) = true)
    (a10 : PySem.W.nsIn K mainGlobals "_law_within" = some (some (.ref f10)))
    (l10 : K.lookup f10 = some ⟨oc10, od10, .func (PySem.W.fnOf "_law_within" "_law_within" (defArgs s_law_within) (defBody s_law_within) (defScope s_law_within) .none kV10 dc10 pm10 an10 cd10 ct10), sl10⟩)
    (c10 : PySem.W.codeIn K cd10 "_law_within" = true)
    (k10 : PySem.W.keepIn K (.ref f10) = true)
    (a11 : PySem.W.nsIn K mainGlobals "_law_is_table" = some (some (.ref f11)))
    (l11 : K.lookup f11 = some ⟨oc11, od11, .func (PySem.W.fnOf "_law_is_table" "_law_is_table" (defArgs s_law_is_table) (defBody s_law_is_table) (defScope s_law_is_table) .none kV11 dc11 pm11 an11 cd11 ct11), sl11⟩)
    (c11 : PySem.W.codeIn K cd11 "_law_is_table" = true)
    (k11 : PySem.W.keepIn K (.ref f11) = true)
    (a12 : PySem.W.nsIn K mainGlobals "_law_table" = some (some (.ref f12)))
    (l12 : K.lookup f12 = some ⟨oc12, od12, .func (PySem.W.fnOf "_law_table" "_law_table" (defArgs s_law_table) (defBody s_law_table) (defScope s_law_table) .none kV12 dc12 pm12 an12 cd12 ct12), sl12⟩)
    (c12 : PySem.W.codeIn K cd12 "_law_table" = true)
    (k12 : PySem.W.keepIn K (.ref f12) = true)
    (a13 : PySem.W.nsIn K mainGlobals "_law_draws" = some (some (.ref f13)))
    (l13 : K.lookup f13 = some ⟨oc13, od13, .func (PySem.W.fnOf "_law_draws" "_law_draws" (defArgs s_law_draws) (defBody s_law_draws) (defScope s_law_draws) .none kV13 dc13 pm13 an13 cd13 ct13), sl13⟩)
    (c13 : PySem.W.codeIn K cd13 "_law_draws" = true)
    (k13 : PySem.W.keepIn K (.ref f13) = true)
    (a14 : PySem.W.nsIn K mainGlobals "_law_names" = some (some (.ref f14)))
    (l14 : K.lookup f14 = some ⟨oc14, od14, .func (PySem.W.fnOf "_law_names" "_law_names" (defArgs s_law_names) (defBody s_law_names) (defScope s_law_names) .none kV14 dc14 pm14 an14 cd14 ct14), sl14⟩)
    (c14 : PySem.W.codeIn K cd14 "_law_names" = true)
    (k14 : PySem.W.keepIn K (.ref f14) = true)
    (a15 : PySem.W.nsIn K mainGlobals "_law_points" = some (some (.ref f15)))
    (l15 : K.lookup f15 = some ⟨oc15, od15, .func (PySem.W.fnOf "_law_points" "_law_points" (defArgs s_law_points) (defBody s_law_points) (defScope s_law_points) .none kV15 dc15 pm15 an15 cd15 ct15), sl15⟩)
    (c15 : PySem.W.codeIn K cd15 "_law_points" = true)
    (k15 : PySem.W.keepIn K (.ref f15) = true)
    (a16 : PySem.W.nsIn K mainGlobals "_law_other" = some (some (.ref f16)))
    (l16 : K.lookup f16 = some ⟨oc16, od16, .func (PySem.W.fnOf "_law_other" "_law_other" (defArgs s_law_other) (defBody s_law_other) (defScope s_law_other) .none kV16 dc16 pm16 an16 cd16 ct16), sl16⟩)
    (c16 : PySem.W.codeIn K cd16 "_law_other" = true)
    (k16 : PySem.W.keepIn K (.ref f16) = true)
    (a17 : PySem.W.nsIn K mainGlobals "law" = some (some (.ref f17)))
    (l17 : K.lookup f17 = some ⟨oc17, od17, .func (PySem.W.fnOf "law" "law" (defArgs s_law) (defBody s_law) (defScope s_law) .none kV17 dc17 pm17 an17 cd17 ct17), sl17⟩)
    (c17 : PySem.W.codeIn K cd17 "law" = true)
    (k17 : PySem.W.keepIn K (.ref f17) = true)
    (zall : PySem.W.nsIn K mainGlobals "all" = some none)
    (zbool : PySem.W.nsIn K mainGlobals "bool" = some none)
    (zint : PySem.W.nsIn K mainGlobals "int" = some none)
    (zisinstance : PySem.W.nsIn K mainGlobals "isinstance" = some none)
    (zlen : PySem.W.nsIn K mainGlobals "len" = some none)
    (zlist : PySem.W.nsIn K mainGlobals "list" = some none)
    (zmax : PySem.W.nsIn K mainGlobals "max" = some none)
    (zmin : PySem.W.nsIn K mainGlobals "min" = some none)
    (zrange : PySem.W.nsIn K mainGlobals "range" = some none)
    (zset : PySem.W.nsIn K mainGlobals "set" = some none)
    (zsorted : PySem.W.nsIn K mainGlobals "sorted" = some none)
    (zstr : PySem.W.nsIn K mainGlobals "str" = some none)
    (ztuple : PySem.W.nsIn K mainGlobals "tuple" = some none)
    (vLETTERS : PySem.W.nsIn K mainGlobals "LETTERS" = some (some (.str "abcdefghijklmnopqrstuvwxyz" tLETTERS)))
    (vMOST_ENTRIES : PySem.W.nsIn K mainGlobals "MOST_ENTRIES" = some (some (.int 30 tMOST_ENTRIES)))
    (vMOST_HOUR : PySem.W.nsIn K mainGlobals "MOST_HOUR" = some (some (.int 1000000000 tMOST_HOUR)))
    (vMOST_POINTS : PySem.W.nsIn K mainGlobals "MOST_POINTS" = some (some (.int 1000000 tMOST_POINTS)))
    (aXNoTable : PySem.W.nsIn K mainGlobals "NoTable" = some (some (.ref xNoTable)))
    (aXRailError : PySem.W.nsIn K mainGlobals "RailError" = some (some (.ref xRailError)))
    (aXNoForm : PySem.W.nsIn K mainGlobals "NoForm" = some (some (.ref xNoForm)))
    (kpNoTable : PySem.W.keepIn K (.ref xNoTable) = true)
    (exNoTable : PySem.W.excIn K xNoTable PySem.HandSPX.veTail "ValueError.__new__" = true)
    (beNoTable : PySem.W.subIn K (.ref xNoTable) (.type "BaseException") = some true)
    (tyNoTable : PySem.W.typeIn K (.ref xNoTable) = some (.type "type"))
    : ∃ fd : FuncData, (∀ (s : Shared) (v : Value), BindsTo s fd ⟨[v], []⟩ [("script", v)]) ∧ ∀ base : Heap, K.In base → base.Ns mainGlobals mg → FnOk l.prog w K mg base (L2N.CX l.prog w) 6 fa fd ["script"] (spTop K) := by
  have e := hfa.symm.trans (PySem.W.mg_of X G a17)
  cases e
  refine ⟨PySem.W.fnOf "law" "law" (defArgs s_law) (defBody s_law) (defScope s_law) .none kV17 dc17 pm17 an17 cd17 ct17, fun s v => .of_eq rfl, fun base _ _ => ?_⟩
  have T : Txt ⟨l.prog, w, K, mg, base⟩ :=
    { d_is_within := defT_mk X G a0 l0 c0 k0 (fun _ _ _ _ _ _ us hl => match us, hl with | [_, _, _], _ => rfl)
      d_is_name := defT_mk X G a1 l1 c1 k1 (fun _ _ _ _ _ _ us hl => match us, hl with | [_], _ => rfl)
      d_is_entry := defT_mk X G a2 l2 c2 k2 (fun _ _ _ _ _ _ us hl => match us, hl with | [_], _ => rfl)
      d_is_table := defT_mk X G a3 l3 c3 k3 (fun _ _ _ _ _ _ us hl => match us, hl with | [_], _ => rfl)
      d_need_table := defT_mk X G a4 l4 c4 k4 (fun _ _ _ _ _ _ us hl => match us, hl with | [_], _ => rfl)
      d_points_in := defT_mk X G a5 l5 c5 k5 (fun _ _ _ _ _ _ us hl => match us, hl with | [_, _, _], _ => rfl)
      d_points_at := defT_mk X G a6 l6 c6 k6 (fun _ _ _ _ _ _ us hl => match us, hl with | [_, _, _], _ => rfl)
      d_parting := defT_mk X G a7 l7 c7 k7 (fun _ _ _ _ _ _ us hl => match us, hl with | [_, _], _ => rfl)
      d_law_draw := defT_mk X G a8 l8 c8 k8 (fun _ _ _ _ _ _ us hl => match us, hl with | [_, _], _ => rfl)
      d_law_is_name := defT_mk X G a9 l9 c9 k9 (fun _ _ _ _ _ _ us hl => match us, hl with | [_], _ => rfl)
      d_law_within := defT_mk X G a10 l10 c10 k10 (fun _ _ _ _ _ _ us hl => match us, hl with | [_, _, _], _ => rfl)
      d_law_is_table := defT_mk X G a11 l11 c11 k11 (fun _ _ _ _ _ _ us hl => match us, hl with | [_], _ => rfl)
      d_law_table := defT_mk X G a12 l12 c12 k12 (fun _ _ _ _ _ _ us hl => match us, hl with | [_, _], _ => rfl)
      d_law_draws := defT_mk X G a13 l13 c13 k13 (fun _ _ _ _ _ _ us hl => match us, hl with | [_, _], _ => rfl)
      d_law_names := defT_mk X G a14 l14 c14 k14 (fun _ _ _ _ _ _ us hl => match us, hl with | [_, _], _ => rfl)
      d_law_points := defT_mk X G a15 l15 c15 k15 (fun _ _ _ _ _ _ us hl => match us, hl with | [_, _, _], _ => rfl)
      d_law_other := defT_mk X G a16 l16 c16 k16 (fun _ _ _ _ _ _ us hl => match us, hl with | [_, _, _], _ => rfl)
      z_all := PySem.W.mg_none_of X G zall
      z_bool := PySem.W.mg_none_of X G zbool
      z_int := PySem.W.mg_none_of X G zint
      z_isinstance := PySem.W.mg_none_of X G zisinstance
      z_len := PySem.W.mg_none_of X G zlen
      z_list := PySem.W.mg_none_of X G zlist
      z_max := PySem.W.mg_none_of X G zmax
      z_min := PySem.W.mg_none_of X G zmin
      z_range := PySem.W.mg_none_of X G zrange
      z_set := PySem.W.mg_none_of X G zset
      z_sorted := PySem.W.mg_none_of X G zsorted
      z_str := PySem.W.mg_none_of X G zstr
      z_tuple := PySem.W.mg_none_of X G ztuple
      g_LETTERS := constT X G vLETTERS ⟨_, rfl⟩
      g_MOST_ENTRIES := constT X G vMOST_ENTRIES ⟨_, rfl⟩
      g_MOST_HOUR := constT X G vMOST_HOUR ⟨_, rfl⟩
      g_MOST_POINTS := constT X G vMOST_POINTS ⟨_, rfl⟩
      e_NoTable := ⟨xNoTable, aXNoTable, PySem.W.mg_of X G aXNoTable, exNoTable, kpNoTable, beNoTable, tyNoTable⟩ }
  exact top_ok (ok_law T (fun_mk (st := s_law) l17 c17 k17)) (law_holds)

end K03
open PySem PySem.W PyProof.Rows
set_option maxRecDepth 100000 in
set_option maxHeartbeats 0 in
theorem PySem.Challenge.cw_clothrail_k03_where_tables_part_holds : PySem.Challenge.rw_clothrail_k03_where_tables_part.Holds := by
  w_on; o_law; k_head; (case hw => w_witness2)
  k_fill
  refine DL.walk_dl 6 (l := PySem.Challenge.rw_clothrail_k03_where_tables_part) rfl rfl ⟨rfl, by decide, by decide⟩ (fun w h Y => PySem.W.kIn_of Y) ?F
  case F =>
    intro w mg fa h KX G hmg
    refine' K03.all_mk KX G hmg ?a0 ?l0 ?c0 ?k0 ?a1 ?l1 ?c1 ?k1 ?a2 ?l2 ?c2 ?k2 ?a3 ?l3 ?c3 ?k3 ?a4 ?l4 ?c4 ?k4 ?a5 ?l5 ?c5 ?k5 ?a6 ?l6 ?c6 ?k6 ?a7 ?l7 ?c7 ?k7 ?a8 ?l8 ?c8 ?k8 ?a9 ?l9 ?c9 ?k9 ?a10 ?l10 ?c10 ?k10 ?a11 ?l11 ?c11 ?k11 ?a12 ?l12 ?c12 ?k12 ?a13 ?l13 ?c13 ?k13 ?a14 ?l14 ?c14 ?k14 ?a15 ?l15 ?c15 ?k15 ?a16 ?l16 ?c16 ?k16 ?a17 ?l17 ?c17 ?k17 ?zall ?zbool ?zint ?zisinstance ?zlen ?zlist ?zmax ?zmin ?zrange ?zset ?zsorted ?zstr ?ztuple ?vLETTERS ?vMOST_ENTRIES ?vMOST_HOUR ?vMOST_POINTS ?aXNoTable ?aXRailError ?aXNoForm ?kpNoTable ?exNoTable ?beNoTable ?tyNoTable
    (case a0 => k_is)
    (case l0 => k_is)
    (case c0 => k_is)
    (case k0 => k_is)
    (case a1 => k_is)
    (case l1 => k_is)
    (case c1 => k_is)
    (case k1 => k_is)
    (case a2 => k_is)
    (case l2 => k_is)
    (case c2 => k_is)
    (case k2 => k_is)
    (case a3 => k_is)
    (case l3 => k_is)
    (case c3 => k_is)
    (case k3 => k_is)
    (case a4 => k_is)
    (case l4 => k_is)
    (case c4 => k_is)
    (case k4 => k_is)
    (case a5 => k_is)
    (case l5 => k_is)
    (case c5 => k_is)
    (case k5 => k_is)
    (case a6 => k_is)
    (case l6 => k_is)
    (case c6 => k_is)
    (case k6 => k_is)
    (case a7 => k_is)
    (case l7 => k_is)
    (case c7 => k_is)
    (case k7 => k_is)
    (case a8 => k_is)
    (case l8 => k_is)
    (case c8 => k_is)
    (case k8 => k_is)
    (case a9 => k_is)
    (case l9 => k_is)
    (case c9 => k_is)
    (case k9 => k_is)
    (case a10 => k_is)
    (case l10 => k_is)
    (case c10 => k_is)
    (case k10 => k_is)
    (case a11 => k_is)
    (case l11 => k_is)
    (case c11 => k_is)
    (case k11 => k_is)
    (case a12 => k_is)
    (case l12 => k_is)
    (case c12 => k_is)
    (case k12 => k_is)
    (case a13 => k_is)
    (case l13 => k_is)
    (case c13 => k_is)
    (case k13 => k_is)
    (case a14 => k_is)
    (case l14 => k_is)
    (case c14 => k_is)
    (case k14 => k_is)
    (case a15 => k_is)
    (case l15 => k_is)
    (case c15 => k_is)
    (case k15 => k_is)
    (case a16 => k_is)
    (case l16 => k_is)
    (case c16 => k_is)
    (case k16 => k_is)
    (case a17 => k_is)
    (case l17 => k_is)
    (case c17 => k_is)
    (case k17 => k_is)
    (case zall => k_is)
    (case zbool => k_is)
    (case zint => k_is)
    (case zisinstance => k_is)
    (case zlen => k_is)
    (case zlist => k_is)
    (case zmax => k_is)
    (case zmin => k_is)
    (case zrange => k_is)
    (case zset => k_is)
    (case zsorted => k_is)
    (case zstr => k_is)
    (case ztuple => k_is)
    (case vLETTERS => k_is)
    (case vMOST_ENTRIES => k_is)
    (case vMOST_HOUR => k_is)
    (case vMOST_POINTS => k_is)
    (case aXNoTable => k_is)
    (case aXRailError => k_is)
    (case aXNoForm => k_is)
    (case kpNoTable => k_is)
    (case exNoTable => k_exc)
    (case beNoTable => k_is)
    (case tyNoTable => k_is)

