import PyProof.Rows.All
import Wide.All
import OpenK.AllK
import Wide.FinOn
import HandS.ForMost
import HandS.TupAny
import HandS.TupMul
import HandS.Zip
import HandS.Deep
import HandS.Style
import HandS.RaiseMore
import PySem.Challenge.RW_wheelfill_k37_rules_gone_through
set_option Elab.async false
set_option linter.all false
set_option maxRecDepth 100000
namespace Wf
open PySem PySem.Spec PyProof.Rows L2

/-- data: what a program's value is, up to where it lies; loc: a mutable thing, by its number -/
inductive D where
  | non | bl (b : Bool) | int (i : Int) | str (s : Str) | opq
  | tup (xs : List D) | lst (xs : List D) | scr (xs : List D)
  | sdc (ks : List Str) (xs : List D)
  | dct (ks xs : List D)
  | ins (c : Nat) (ns : List Str) (xs : List D)
  | loc (n : Nat)
/-- what a mutable thing holds -/
inductive Cn where
  | lst (xs : List D)
  | sdc (ks : List Str) (xs : List D)
  | dct (ks xs : List D)
  | ins (c : Nat) (ns : List Str) (xs : List D)
abbrev Mem := List Cn
abbrev Envi := List (Option D)

/-- the fixed things: the written part, the world, where the classes stand; the description of dicts with tuple keys -/
structure Gd where
  K : PySem.W.Frag
  ca : Nat → Addr
  /-- the object of a dict with tuple keys holds the keys and values: by the values' relation -/
  dk : Obj → List (V × V) → Prop

/-- addresses that are not ours: the callers' mutable things F, our own r -/
def Off (F r : List Addr) (a : Addr) : Prop := a ∉ F ∧ a ∉ r
def ScrAt (K : PySem.W.Frag) (H : Hp) (a : Addr) (vs : List V) : Prop := (∃ o, H a = some (.frz o (.lst vs))) ∨ ∀ H', SqL K H' a vs

section
variable (g : Gd) (F r : List Addr) (H : Hp)
mutual
def Rep : D → V → Prop
  | .non, v => v = .non
  | .bl b, v => v = .bl b
  | .int i, v => v = .int i
  | .str s, v => v = .str s
  | .opq, v => ∃ s, v = .str s
  | .tup xs, v => ∃ a vs, v = .ref a ∧ SqT g.K H a vs ∧ RepL xs vs
  | .lst xs, v => ∃ a vs, v = .ref a ∧ H a = some (.lst vs) ∧ Off F r a ∧ RepL xs vs
  | .scr xs, v => ∃ a vs, v = .ref a ∧ ScrAt g.K H a vs ∧ RepL xs vs
  | .sdc ks xs, v => ∃ a kvs, v = .ref a ∧ H a = some (.dK kvs) ∧ Off F r a ∧ kvs.map (·.1) = ks.map Sum.inr ∧ RepL xs (kvs.map (·.2))
  | .dct ks xs, v => ∃ a o kvs, v = .ref a ∧ H a = some (.ext fun h => h.get? a = some o) ∧ Off F r a ∧ g.dk o kvs ∧ RepL ks (kvs.map (·.1)) ∧ RepL xs (kvs.map (·.2))
  | .ins c ns xs, v => ∃ a dx fs, v = .ref a ∧ H a = some (.ins (g.ca c) dx fs) ∧ Off F r a ∧ fs.map (·.1) = ns ∧ RepL xs (fs.map (·.2))
  | .loc n, v => ∃ a, r[n]? = some a ∧ v = .ref a
def RepL : List D → List V → Prop
  | [], vs => vs = []
  | d :: ds, vs => ∃ v w, vs = v :: w ∧ Rep d v ∧ RepL ds w
end
def CRep (a : Addr) : Cn → Prop
  | .lst xs => ∃ vs, H a = some (.lst vs) ∧ RepL g F r H xs vs
  | .sdc ks xs => ∃ kvs, H a = some (.dK kvs) ∧ kvs.map (·.1) = ks.map Sum.inr ∧ RepL g F r H xs (kvs.map (·.2))
  | .dct ks xs => ∃ o kvs, H a = some (.ext fun h => h.get? a = some o) ∧ g.dk o kvs ∧ RepL g F r H ks (kvs.map (·.1)) ∧ RepL g F r H xs (kvs.map (·.2))
  | .ins c ns xs => ∃ dx fs, H a = some (.ins (g.ca c) dx fs) ∧ fs.map (·.1) = ns ∧ RepL g F r H xs (fs.map (·.2))
end

/-- the heap has gone on: new mutable things, all else that is not ours stands -/
structure Ext (r : List Addr) (H : Hp) (r' : List Addr) (H' : Hp) : Prop where
  new : ∃ t, r' = r ++ t ∧ ∀ b ∈ t, H b = none
  keep : ∀ b o, H b = some o → b ∉ r → H' b = some o
  tups : ∀ b xs, H b = some (.tup xs) → H' b = some (.tup xs)
  frzs : ∀ b o u, H b = some (.frz o u) → H' b = some (.frz o u)
  live : ∀ b, H b ≠ none → H' b ≠ none
theorem Ext.refl {r : List Addr} {H : Hp} : Ext r H r H := ⟨⟨[], by simp, by simp⟩, fun _ _ h _ => h, fun _ _ h => h, fun _ _ _ h => h, fun _ h => h⟩
theorem Ext.trans {r r1 r2 : List Addr} {H H1 H2 : Hp} (a : Ext r H r1 H1) (b : Ext r1 H1 r2 H2) : Ext r H r2 H2 := by
  obtain ⟨t, rfl, ht⟩ := a.new
  obtain ⟨t2, rfl, ht2⟩ := b.new
  refine ⟨⟨t ++ t2, by simp, fun c hc => ?_⟩, fun c o h hc => ?_, fun c xs h => b.tups c xs (a.tups c xs h), fun c o u h => b.frzs c o u (a.frzs c o u h), fun c h => b.live c (a.live c h)⟩
  · rcases List.mem_append.mp hc with hc | hc
    · exact ht c hc
    · have := ht2 c hc
      cases q : H c with
      | none => rfl
      | some o => exact absurd this (a.live c (by rw [q]; simp))
  · refine b.keep c o (a.keep c o h hc) fun z => ?_
    rcases List.mem_append.mp z with z | z
    · exact hc z
    · rw [ht c z] at h; cases h
/-- a new object of no one's -/
theorem Ext.laid {r : List Addr} {H : Hp} {p : Addr} {o : HO} (h : H p = none) : Ext r H r (upd H p o) := by
  have ne : ∀ {b u}, H b = some u → b ≠ p := fun e z => by subst z; rw [h] at e; cases e
  refine ⟨⟨[], by simp, by simp⟩, fun b u e _ => by rw [upd_ne (ne e)]; exact e, fun b xs e => by rw [upd_ne (ne e)]; exact e, fun b o xs e => by rw [upd_ne (ne e)]; exact e, fun b e => ?_⟩
  unfold upd
  split
  · simp
  · exact e
/-- a new mutable thing -/
theorem Ext.laidM {r : List Addr} {H : Hp} {p : Addr} {o : HO} (h : H p = none) : Ext r H (r ++ [p]) (upd H p o) := by
  have x := Ext.laid (r := r) (o := o) h
  exact ⟨⟨[p], rfl, fun b hb => by rw [List.mem_singleton.mp hb]; exact h⟩, x.keep, x.tups, x.frzs, x.live⟩
/-- a mutable thing is changed -/
theorem Ext.wr {r : List Addr} {H : Hp} {p : Addr} {o u : HO} (h : H p = some u) (hp : p ∈ r) (mu : Mut (some u)) : Ext r H r (upd H p o) := by
  refine ⟨⟨[], by simp, by simp⟩, fun b u e hb => by rw [upd_ne (fun (z : b = p) => hb (by rw [z]; exact hp))]; exact e, fun b xs e => ?_, fun b o xs e => ?_, fun b e => ?_⟩
  · rw [upd_ne fun z => by subst z; rw [h] at e; cases e; exact mu]; exact e
  · rw [upd_ne fun z => by subst z; rw [h] at e; cases e; exact mu]; exact e
  · unfold upd
    split
    · simp
    · exact e
theorem Ext.same {r : List Addr} {H H' : Hp} (s : Same H H') : Ext r H r H' :=
  ⟨⟨[], by simp, by simp⟩, fun b o h _ => s b o h, fun b _ h => s b _ h, fun b _ _ h => s b _ h, fun b h => by
    cases q : H b with
    | none => exact absurd q h
    | some o => rw [s b o q]; simp⟩

section
variable {g : Gd} {F r r' : List Addr} {H H' : Hp}
theorem SqT.ext (x : Ext r H r' H') {a : Addr} {vs : List V} (h : SqT g.K H a vs) : SqT g.K H' a vs := by
  rcases h with (h | ⟨o, h⟩) | h
  · exact .inl (.inl (x.tups _ _ h))
  · exact .inl (.inr ⟨o, x.frzs _ _ _ h⟩)
  · exact .inr h
theorem Off.ext (x : Ext r H r' H') {a : Addr} (h : Off F r a) (l : H a ≠ none) : Off F r' a := by
  obtain ⟨t, rfl, ht⟩ := x.new
  refine ⟨h.1, fun z => ?_⟩
  rcases List.mem_append.mp z with z | z
  · exact h.2 z
  · exact l (ht a z)
mutual
theorem Rep.ext (x : Ext r H r' H') : ∀ {d : D} {v : V}, Rep g F r H d v → Rep g F r' H' d v
  | .non, _, h => by simpa [Rep] using h
  | .bl _, _, h => by simpa [Rep] using h
  | .int _, _, h => by simpa [Rep] using h
  | .str _, _, h => by simpa [Rep] using h
  | .opq, _, h => by simpa [Rep] using h
  | .tup _, _, h => by
    simp only [Rep] at h ⊢
    obtain ⟨a, vs, e, hs, hl⟩ := h
    exact ⟨a, vs, e, SqT.ext x hs, RepL.ext x hl⟩
  | .lst _, _, h => by
    simp only [Rep] at h ⊢
    obtain ⟨a, vs, e, hs, ho, hl⟩ := h
    exact ⟨a, vs, e, x.keep _ _ hs ho.2, ho.ext x (by rw [hs]; simp), RepL.ext x hl⟩
  | .scr _, _, h => by
    simp only [Rep] at h ⊢
    obtain ⟨a, vs, e, hs, hl⟩ := h
    refine ⟨a, vs, e, ?_, RepL.ext x hl⟩
    rcases hs with ⟨o, hs⟩ | hs
    · exact .inl ⟨o, x.frzs _ _ _ hs⟩
    · exact .inr hs
  | .sdc _ _, _, h => by
    simp only [Rep] at h ⊢
    obtain ⟨a, kvs, e, hs, ho, hk, hl⟩ := h
    exact ⟨a, kvs, e, x.keep _ _ hs ho.2, ho.ext x (by rw [hs]; simp), hk, RepL.ext x hl⟩
  | .dct _ _, _, h => by
    simp only [Rep] at h ⊢
    obtain ⟨a, o, kvs, e, hs, ho, hd, hk, hl⟩ := h
    exact ⟨a, o, kvs, e, x.keep _ _ hs ho.2, ho.ext x (by rw [hs]; simp), hd, RepL.ext x hk, RepL.ext x hl⟩
  | .ins _ _ _, _, h => by
    simp only [Rep] at h ⊢
    obtain ⟨a, dx, fs, e, hs, ho, hk, hl⟩ := h
    exact ⟨a, dx, fs, e, x.keep _ _ hs ho.2, ho.ext x (by rw [hs]; simp), hk, RepL.ext x hl⟩
  | .loc n, _, h => by
    simp only [Rep] at h ⊢
    obtain ⟨a, ha, e⟩ := h
    obtain ⟨t, rfl, _⟩ := x.new
    exact ⟨a, by rw [List.getElem?_append_left (List.getElem?_eq_some_iff.mp ha).1]; exact ha, e⟩
theorem RepL.ext (x : Ext r H r' H') : ∀ {ds : List D} {vs : List V}, RepL g F r H ds vs → RepL g F r' H' ds vs
  | [], _, h => by simpa [RepL] using h
  | _ :: _, _, h => by
    simp only [RepL] at h ⊢
    obtain ⟨v, w, e, h1, h2⟩ := h
    exact ⟨v, w, e, Rep.ext x h1, RepL.ext x h2⟩
end
end
section
variable {g : Gd} {F r r' : List Addr} {H H' : Hp}
theorem RepL.length : ∀ {ds : List D} {vs : List V}, RepL g F r H ds vs → ds.length = vs.length
  | [], _, h => by simp only [RepL] at h; subst h; rfl
  | _ :: _, _, h => by
    simp only [RepL] at h
    obtain ⟨v, w, rfl, _, h⟩ := h
    simp [RepL.length h]
theorem repL_nil : RepL g F r H [] [] := by simp [RepL]
theorem repL_cons {d : D} {ds : List D} {v : V} {vs : List V} (h1 : Rep g F r H d v) (h2 : RepL g F r H ds vs) : RepL g F r H (d :: ds) (v :: vs) := by
  simp only [RepL]
  exact ⟨v, vs, rfl, h1, h2⟩
theorem repL_nil_iff {vs : List V} (h : RepL g F r H [] vs) : vs = [] := by simpa [RepL] using h
theorem repL_cons_iff {d : D} {ds : List D} {vs : List V} (h : RepL g F r H (d :: ds) vs) : ∃ v w, vs = v :: w ∧ Rep g F r H d v ∧ RepL g F r H ds w := by simpa only [RepL] using h
theorem RepL.get : ∀ {ds : List D} {vs : List V} {i : Nat} {d : D}, RepL g F r H ds vs → ds[i]? = some d → ∃ v, vs[i]? = some v ∧ Rep g F r H d v
  | [], _, _, _, _, e => by simp at e
  | _ :: _, _, 0, _, h, e => by
    obtain ⟨v, w, rfl, h1, _⟩ := repL_cons_iff h
    simp at e; subst e
    exact ⟨v, rfl, h1⟩
  | _ :: _, _, i + 1, _, h, e => by
    obtain ⟨v, w, rfl, _, h2⟩ := repL_cons_iff h
    exact RepL.get (i := i) h2 (by simpa using e)
theorem RepL.getV : ∀ {ds : List D} {vs : List V} {i : Nat} {v : V}, RepL g F r H ds vs → vs[i]? = some v → ∃ d, ds[i]? = some d ∧ Rep g F r H d v
  | [], _, _, _, h, e => by rw [repL_nil_iff h] at e; simp at e
  | d :: _, _, 0, _, h, e => by
    obtain ⟨v, w, rfl, h1, _⟩ := repL_cons_iff h
    simp at e; subst e
    exact ⟨d, rfl, h1⟩
  | _ :: _, _, i + 1, _, h, e => by
    obtain ⟨v, w, rfl, _, h2⟩ := repL_cons_iff h
    exact RepL.getV (i := i) h2 (by simpa using e)
theorem RepL.append : ∀ {ds es : List D} {vs ws : List V}, RepL g F r H ds vs → RepL g F r H es ws → RepL g F r H (ds ++ es) (vs ++ ws)
  | [], _, _, _, h, k => by rw [repL_nil_iff h]; exact k
  | _ :: _, _, _, _, h, k => by
    obtain ⟨v, w, rfl, h1, h2⟩ := repL_cons_iff h
    exact repL_cons h1 (h2.append k)
theorem RepL.take : ∀ (n : Nat) {ds : List D} {vs : List V}, RepL g F r H ds vs → RepL g F r H (ds.take n) (vs.take n)
  | 0, _, _, _ => by simp [RepL]
  | _ + 1, [], _, h => by rw [repL_nil_iff h]; simp [RepL]
  | n + 1, _ :: _, _, h => by
    obtain ⟨v, w, rfl, h1, h2⟩ := repL_cons_iff h
    exact repL_cons h1 (h2.take n)
theorem RepL.drop : ∀ (n : Nat) {ds : List D} {vs : List V}, RepL g F r H ds vs → RepL g F r H (ds.drop n) (vs.drop n)
  | 0, _, _, h => h
  | _ + 1, [], _, h => by rw [repL_nil_iff h]; simp [RepL]
  | n + 1, _ :: _, _, h => by
    obtain ⟨v, w, rfl, h1, h2⟩ := repL_cons_iff h
    exact h2.drop n
theorem RepL.set {d : D} {v : V} (hv : Rep g F r H d v) : ∀ (i : Nat) {ds : List D} {vs : List V}, RepL g F r H ds vs → RepL g F r H (ds.set i d) (vs.set i v)
  | _, [], _, h => by rw [repL_nil_iff h]; simp [RepL]
  | 0, _ :: _, _, h => by
    obtain ⟨v, w, rfl, h1, h2⟩ := repL_cons_iff h
    exact repL_cons hv h2
  | n + 1, _ :: _, _, h => by
    obtain ⟨v, w, rfl, h1, h2⟩ := repL_cons_iff h
    exact repL_cons h1 (h2.set hv n)
theorem RepL.dropLast : ∀ {ds : List D} {vs : List V}, RepL g F r H ds vs → RepL g F r H ds.dropLast vs.dropLast := fun {ds vs} h => by
  rw [List.dropLast_eq_take, List.dropLast_eq_take, ← h.length]
  exact h.take _
theorem RepL.eraseIdx : ∀ (i : Nat) {ds : List D} {vs : List V}, RepL g F r H ds vs → RepL g F r H (ds.eraseIdx i) (vs.eraseIdx i)
  | _, [], _, h => by rw [repL_nil_iff h]; simp [RepL]
  | 0, _ :: _, _, h => by
    obtain ⟨v, w, rfl, h1, h2⟩ := repL_cons_iff h
    exact h2
  | n + 1, _ :: _, _, h => by
    obtain ⟨v, w, rfl, h1, h2⟩ := repL_cons_iff h
    exact repL_cons h1 (h2.eraseIdx n)
theorem RepL.rep {ds : List D} {vs : List V} (h : RepL g F r H ds vs) : ∀ k : Nat, RepL g F r H (List.replicate k ds).flatten (List.replicate k vs).flatten
  | 0 => by simp [RepL]
  | k + 1 => by
    rw [List.replicate_succ, List.replicate_succ, List.flatten_cons, List.flatten_cons]
    exact h.append (h.rep k)
theorem RepL.ints : ∀ {ns : List Int} {vs : List V}, RepL g F r H (ns.map D.int) vs → vs = ns.map V.int
  | [], _, h => repL_nil_iff h
  | n :: ns, _, h => by
    obtain ⟨v, w, rfl, h1, h2⟩ := repL_cons_iff h
    simp only [Rep] at h1
    subst h1
    rw [RepL.ints h2]; rfl
theorem repL_ints : ∀ (ns : List Int), RepL g F r H (ns.map D.int) (ns.map V.int)
  | [] => repL_nil
  | n :: ns => repL_cons (by simp [Rep]) (repL_ints ns)
theorem RepL.bls : ∀ {ns : List Bool} {vs : List V}, RepL g F r H (ns.map D.bl) vs → vs = ns.map V.bl
  | [], _, h => repL_nil_iff h
  | n :: ns, _, h => by
    obtain ⟨v, w, rfl, h1, h2⟩ := repL_cons_iff h
    simp only [Rep] at h1
    subst h1
    rw [RepL.bls h2]; rfl

structure StOk (g : Gd) (F r : List Addr) (H : Hp) (M : Mem) : Prop where
  len : r.length = M.length
  nd : r.Nodup
  off : ∀ b ∈ r, b ∉ F
  liveF : ∀ b ∈ F, H b ≠ none
  at_ : ∀ (n : Nat) (a : Addr) (c : Cn), r[n]? = some a → M[n]? = some c → CRep g F r H a c
theorem CRep.live {a : Addr} {c : Cn} (h : CRep g F r H a c) : H a ≠ none := by
  cases c with
  | lst xs => obtain ⟨vs, e, _⟩ := h; rw [e]; simp
  | sdc ks xs => obtain ⟨vs, e, _⟩ := h; rw [e]; simp
  | dct ks xs => obtain ⟨o, vs, e, _⟩ := h; rw [e]; simp
  | ins k ns xs => obtain ⟨o, vs, e, _⟩ := h; rw [e]; simp
theorem CRep.mut {a : Addr} {c : Cn} (h : CRep g F r H a c) : Mut (H a) := by
  cases c with
  | lst xs => obtain ⟨vs, e, _⟩ := h; rw [e]; trivial
  | sdc ks xs => obtain ⟨vs, e, _⟩ := h; rw [e]; trivial
  | dct ks xs => obtain ⟨o, vs, e, _⟩ := h; rw [e]; trivial
  | ins k ns xs => obtain ⟨o, vs, e, _⟩ := h; rw [e]; trivial
theorem CRep.ext (x : Ext r H r' H') {a : Addr} (s : H' a = H a) : ∀ {c : Cn}, CRep g F r H a c → CRep g F r' H' a c
  | .lst xs, ⟨vs, e, h⟩ => ⟨vs, s.trans e, RepL.ext x h⟩
  | .sdc ks xs, ⟨vs, e, k, h⟩ => ⟨vs, s.trans e, k, RepL.ext x h⟩
  | .dct ks xs, ⟨o, vs, e, k, h1, h2⟩ => ⟨o, vs, s.trans e, k, RepL.ext x h1, RepL.ext x h2⟩
  | .ins k ns xs, ⟨dx, vs, e, k', h⟩ => ⟨dx, vs, s.trans e, k', RepL.ext x h⟩
variable {M : Mem}
theorem StOk.get (S : StOk g F r H M) {n : Nat} {c : Cn} (h : M[n]? = some c) : ∃ a, r[n]? = some a ∧ a ∈ r ∧ CRep g F r H a c := by
  have hn : n < r.length := by rw [S.len]; exact (List.getElem?_eq_some_iff.mp h).1
  exact ⟨r[n], List.getElem?_eq_getElem hn, List.getElem_mem hn, S.at_ n _ c (List.getElem?_eq_getElem hn) h⟩
theorem StOk.live (S : StOk g F r H M) {b : Addr} (h : b ∈ r) : H b ≠ none := by
  obtain ⟨n, hn, e⟩ := List.mem_iff_getElem.mp h
  have hm : n < M.length := by rw [← S.len]; exact hn
  exact (S.at_ n b M[n] (by rw [List.getElem?_eq_getElem hn, e]) (List.getElem?_eq_getElem hm)).live
/-- what is new is off -/
theorem StOk.offNew (S : StOk g F r H M) {p : Addr} (h : H p = none) : Off F r p := ⟨fun z => S.liveF p z h, fun z => S.live z h⟩
/-- a new object that is not ours to change -/
theorem StOk.laid (S : StOk g F r H M) {p : Addr} {o : HO} (h : H p = none) : StOk g F r (upd H p o) M := by
  have x : Ext r H r (upd H p o) := Ext.laid h
  refine ⟨S.len, S.nd, S.off, fun b hb => x.live b (S.liveF b hb), fun n a c e1 e2 => ?_⟩
  refine (S.at_ n a c e1 e2).ext x (upd_ne fun z => ?_)
  subst z
  exact S.live (List.mem_of_getElem? e1) h
/-- the same for whatever grows beside -/
theorem StOk.same (S : StOk g F r H M) (s : Same H H') : StOk g F r H' M := by
  have x : Ext r H r H' := Ext.same s
  refine ⟨S.len, S.nd, S.off, fun b hb => x.live b (S.liveF b hb), fun n a c e1 e2 => ?_⟩
  refine (S.at_ n a c e1 e2).ext x ?_
  have l := S.live (List.mem_of_getElem? e1)
  cases q : H a with
  | none => exact absurd q l
  | some o => exact s a o q
/-- a new mutable thing -/
theorem StOk.new (S : StOk g F r H M) {p : Addr} {o : HO} {c : Cn} (h : H p = none) (hc : CRep g F (r ++ [p]) (upd H p o) p c) : StOk g F (r ++ [p]) (upd H p o) (M ++ [c]) := by
  have x : Ext r H (r ++ [p]) (upd H p o) := Ext.laidM h
  have hp := S.offNew h
  refine ⟨by simp [S.len], ?_, fun b hb => ?_, fun b hb => x.live b (S.liveF b hb), fun n a c' e1 e2 => ?_⟩
  · rw [List.nodup_append]
    refine ⟨S.nd, by simp, fun a ha b hb => ?_⟩
    rw [List.mem_singleton.mp hb]
    exact fun z => hp.2 (by rw [← z]; exact ha)
  · rcases List.mem_append.mp hb with hb | hb
    · exact S.off b hb
    · rw [List.mem_singleton.mp hb]; exact hp.1
  · by_cases hn : n < r.length
    · rw [List.getElem?_append_left hn] at e1
      rw [List.getElem?_append_left (by rw [← S.len]; exact hn)] at e2
      refine (S.at_ n a c' e1 e2).ext x (upd_ne fun z => ?_)
      subst z
      exact S.live (List.mem_of_getElem? e1) h
    · have hl : n < (r ++ [p]).length := (List.getElem?_eq_some_iff.mp e1).1
      have hn' : n = r.length := by simp at hl; omega
      subst hn'
      rw [List.getElem?_append_right (Nat.le_refl _)] at e1
      rw [S.len, List.getElem?_append_right (Nat.le_refl _)] at e2
      simp at e1 e2
      subst e1 e2
      exact hc
/-- a mutable thing is changed -/
theorem StOk.wr (S : StOk g F r H M) {n : Nat} {p : Addr} {o u : HO} {c : Cn} (hn : r[n]? = some p) (h : H p = some u) (mu : Mut (some u)) (hc : CRep g F r (upd H p o) p c) : StOk g F r (upd H p o) (M.set n c) := by
  have hp : p ∈ r := List.mem_of_getElem? hn
  have x : Ext r H r (upd H p o) := Ext.wr h hp mu
  refine ⟨by simp [S.len], S.nd, S.off, fun b hb => x.live b (S.liveF b hb), fun m a c' e1 e2 => ?_⟩
  by_cases hm : m = n
  · subst hm
    rw [hn] at e1; cases e1
    have hl : m < M.length := by rw [← S.len]; exact (List.getElem?_eq_some_iff.mp hn).1
    rw [List.getElem?_set_self hl] at e2; cases e2
    exact hc
  · rw [List.getElem?_set_ne (Ne.symm hm)] at e2
    refine (S.at_ m a c' e1 e2).ext x (upd_ne fun z => hm ?_)
    subst z
    obtain ⟨h1, e1⟩ := List.getElem?_eq_some_iff.mp e1
    obtain ⟨h2, e2⟩ := List.getElem?_eq_some_iff.mp hn
    exact (List.getElem_inj (h₀ := h1) (h₁ := h2) S.nd).mp (e1.trans e2.symm)

structure EnOk (g : Gd) (F r : List Addr) (H : Hp) (e : Envi) (σ : L2.St) : Prop where
  len : e.length = σ.length
  at_ : ∀ (i : Nat) (d : D), e[i]? = some (some d) → ∃ v, σ[i]? = some (some v) ∧ Rep g F r H d v
theorem EnOk.ext {e : Envi} {σ : L2.St} (E : EnOk g F r H e σ) (x : Ext r H r' H') : EnOk g F r' H' e σ :=
  ⟨E.len, fun i d h => let ⟨v, h1, h2⟩ := E.at_ i d h; ⟨v, h1, Rep.ext x h2⟩⟩
theorem EnOk.set {e : Envi} {σ : L2.St} (E : EnOk g F r H e σ) {d : D} {v : V} (h : Rep g F r H d v) (i : Nat) : EnOk g F r H (e.set i (some d)) (σ.set i (some v)) := by
  refine ⟨by simp [E.len], fun j d' hj => ?_⟩
  by_cases hij : j = i
  · subst hij
    have hl : j < e.length := by
      have := (List.getElem?_eq_some_iff.mp hj).1
      simpa using this
    rw [List.getElem?_set_self hl] at hj
    cases hj
    exact ⟨v, List.getElem?_set_self (by rw [← E.len]; exact hl), h⟩
  · rw [List.getElem?_set_ne (Ne.symm hij)] at hj ⊢
    exact E.at_ j d' hj
def wipeE (e : Envi) : List Nat → Envi
  | [] => e
  | v :: vs => (wipeE e vs).set v none
theorem EnOk.wipe {e : Envi} {σ : L2.St} (E : EnOk g F r H e σ) : ∀ vs : List Nat, EnOk g F r H (wipeE e vs) (L2.wipe σ vs)
  | [] => E
  | v :: vs => by
    have ih := E.wipe vs
    show EnOk g F r H ((wipeE e vs).set v none) ((L2.wipe σ vs).set v none)
    refine ⟨by simp [ih.len], fun j d hj => ?_⟩
    by_cases hij : j = v
    · subst hij
      have hl : j < (wipeE e vs).length := by
        have := (List.getElem?_eq_some_iff.mp hj).1
        simpa using this
      rw [List.getElem?_set_self hl] at hj
      cases hj
    · rw [List.getElem?_set_ne (Ne.symm hij)] at hj ⊢
      exact ih.at_ j d hj
end
end Wf
set_option Elab.async false
set_option linter.all false
set_option maxRecDepth 100000
namespace Wf
open PySem PySem.Spec PyProof.Rows L2
/-- whatever moves: what is off stays -/
structure Mv (F r : List Addr) (H : Hp) (F' r' : List Addr) (H' : Hp) : Prop where
  locs : ∀ (n : Nat) (a : Addr), r[n]? = some a → r'[n]? = some a
  off : ∀ a, H a ≠ none → Off F r a → Off F' r' a
  keep : ∀ a o, H a = some o → Off F r a → H' a = some o
  tups : ∀ b xs, H b = some (.tup xs) → H' b = some (.tup xs)
  frzs : ∀ b o u, H b = some (.frz o u) → H' b = some (.frz o u)
section
variable {g : Gd} {F r F' r' : List Addr} {H H' : Hp}
mutual
theorem Rep.mv (x : Mv F r H F' r' H') : ∀ {d : D} {v : V}, Rep g F r H d v → Rep g F' r' H' d v
  | .non, _, h => by simpa [Rep] using h
  | .bl _, _, h => by simpa [Rep] using h
  | .int _, _, h => by simpa [Rep] using h
  | .str _, _, h => by simpa [Rep] using h
  | .opq, _, h => by simpa [Rep] using h
  | .tup _, _, h => by
    simp only [Rep] at h ⊢
    obtain ⟨a, vs, e, hs, hl⟩ := h
    refine ⟨a, vs, e, ?_, RepL.mv x hl⟩
    rcases hs with (h | ⟨o, h⟩) | h
    · exact .inl (.inl (x.tups _ _ h))
    · exact .inl (.inr ⟨o, x.frzs _ _ _ h⟩)
    · exact .inr h
  | .lst _, _, h => by
    simp only [Rep] at h ⊢
    obtain ⟨a, vs, e, hs, ho, hl⟩ := h
    exact ⟨a, vs, e, x.keep _ _ hs ho, x.off a (by rw [hs]; simp) ho, RepL.mv x hl⟩
  | .scr _, _, h => by
    simp only [Rep] at h ⊢
    obtain ⟨a, vs, e, hs, hl⟩ := h
    refine ⟨a, vs, e, ?_, RepL.mv x hl⟩
    rcases hs with ⟨o, hs⟩ | hs
    · exact .inl ⟨o, x.frzs _ _ _ hs⟩
    · exact .inr hs
  | .sdc _ _, _, h => by
    simp only [Rep] at h ⊢
    obtain ⟨a, kvs, e, hs, ho, hk, hl⟩ := h
    exact ⟨a, kvs, e, x.keep _ _ hs ho, x.off a (by rw [hs]; simp) ho, hk, RepL.mv x hl⟩
  | .dct _ _, _, h => by
    simp only [Rep] at h ⊢
    obtain ⟨a, o, kvs, e, hs, ho, hd, hk, hl⟩ := h
    exact ⟨a, o, kvs, e, x.keep _ _ hs ho, x.off a (by rw [hs]; simp) ho, hd, RepL.mv x hk, RepL.mv x hl⟩
  | .ins _ _ _, _, h => by
    simp only [Rep] at h ⊢
    obtain ⟨a, dx, fs, e, hs, ho, hk, hl⟩ := h
    exact ⟨a, dx, fs, e, x.keep _ _ hs ho, x.off a (by rw [hs]; simp) ho, hk, RepL.mv x hl⟩
  | .loc n, _, h => by
    simp only [Rep] at h ⊢
    obtain ⟨a, ha, e⟩ := h
    exact ⟨a, x.locs n a ha, e⟩
theorem RepL.mv (x : Mv F r H F' r' H') : ∀ {ds : List D} {vs : List V}, RepL g F r H ds vs → RepL g F' r' H' ds vs
  | [], _, h => by simpa [RepL] using h
  | _ :: _, _, h => by
    simp only [RepL] at h ⊢
    obtain ⟨v, w, e, h1, h2⟩ := h
    exact ⟨v, w, e, Rep.mv x h1, RepL.mv x h2⟩
end
theorem CRep.mv (x : Mv F r H F' r' H') {a : Addr} (s : H' a = H a) : ∀ {c : Cn}, CRep g F r H a c → CRep g F' r' H' a c
  | .lst xs, ⟨vs, e, h⟩ => ⟨vs, s.trans e, RepL.mv x h⟩
  | .sdc ks xs, ⟨vs, e, k, h⟩ => ⟨vs, s.trans e, k, RepL.mv x h⟩
  | .dct ks xs, ⟨o, vs, e, k, h1, h2⟩ => ⟨o, vs, s.trans e, k, RepL.mv x h1, RepL.mv x h2⟩
  | .ins k ns xs, ⟨dx, vs, e, k', h⟩ => ⟨dx, vs, s.trans e, k', RepL.mv x h⟩
theorem EnOk.mv (x : Mv F r H F' r' H') {e : Envi} {σ : L2.St} (E : EnOk g F r H e σ) : EnOk g F' r' H' e σ :=
  ⟨E.len, fun i d h => let ⟨v, h1, h2⟩ := E.at_ i d h; ⟨v, h1, Rep.mv x h2⟩⟩
variable {M : Mem} {p : Addr} {o : HO}
/-- p is laid and is no one's for a while -/
theorem Mv.foreign (hp : H p = none) : Mv F r H (p :: F) r (upd H p o) := by
  have ne : ∀ {b u}, H b = some u → b ≠ p := fun e z => by subst z; rw [hp] at e; cases e
  refine ⟨fun _ _ h => h, fun a ha h => ⟨fun z => ?_, h.2⟩, fun a u e _ => by rw [upd_ne (ne e)]; exact e, fun b xs e => by rw [upd_ne (ne e)]; exact e, fun b u xs e => by rw [upd_ne (ne e)]; exact e⟩
  rcases List.mem_cons.mp z with z | z
  · subst z; exact ha hp
  · exact h.1 z
theorem StOk.foreign (S : StOk g F r H M) (hp : H p = none) : StOk g (p :: F) r (upd H p o) M := by
  have of := S.offNew hp
  refine ⟨S.len, S.nd, fun b hb z => ?_, fun b hb => ?_, fun n a c e1 e2 => (S.at_ n a c e1 e2).mv (.foreign hp) (upd_ne fun z => ?_)⟩
  · rcases List.mem_cons.mp z with z | z
    · exact of.2 (by rw [← z]; exact hb)
    · exact S.off b hb z
  · rcases List.mem_cons.mp hb with z | z
    · rw [z, upd_same]; simp
    · exact (Ext.laid (r := r) hp).live b (S.liveF b z)
  · exact of.2 (by rw [← z]; exact List.mem_of_getElem? e1)
/-- the foreign thing is changed -/
theorem Mv.poke {u : HO} (hp : H p = some u) (mu : Mut (some u)) (hF : p ∈ F) : Mv F r H F r (upd H p o) := by
  refine ⟨fun _ _ h => h, fun a _ h => h, fun a w e h => by rw [upd_ne fun z => h.1 (by rw [z]; exact hF)]; exact e, fun b xs e => ?_, fun b w xs e => ?_⟩
  · rw [upd_ne fun z => by subst z; rw [hp] at e; cases e; exact mu]; exact e
  · rw [upd_ne fun z => by subst z; rw [hp] at e; cases e; exact mu]; exact e
theorem StOk.poke {u : HO} (S : StOk g F r H M) (hp : H p = some u) (mu : Mut (some u)) (hF : p ∈ F) : StOk g F r (upd H p o) M := by
  refine ⟨S.len, S.nd, S.off, fun b hb => ?_, fun n a c e1 e2 => (S.at_ n a c e1 e2).mv (.poke hp mu hF) (upd_ne fun z => ?_)⟩
  · unfold upd
    split
    · simp
    · exact S.liveF b hb
  · exact S.off a (List.mem_of_getElem? e1) (by rw [z]; exact hF)
/-- it is told as a value -/
theorem Mv.free : Mv (p :: F) r H F r H := ⟨fun _ _ h => h, fun a _ h => ⟨fun z => h.1 (List.mem_cons_of_mem _ z), h.2⟩, fun _ _ h _ => h, fun _ _ h => h, fun _ _ _ h => h⟩
theorem StOk.free (S : StOk g (p :: F) r H M) : StOk g F r H M :=
  ⟨S.len, S.nd, fun b hb z => S.off b hb (List.mem_cons_of_mem _ z), fun b hb => S.liveF b (List.mem_cons_of_mem _ hb), fun n a c e1 e2 => (S.at_ n a c e1 e2).mv .free rfl⟩
theorem StOk.offP (S : StOk g (p :: F) r H M) (hF : p ∉ F) : Off F r p := ⟨hF, fun z => S.off p z List.mem_cons_self⟩
/-- it is told as a mutable thing -/
theorem Mv.adopt : Mv (p :: F) r H F (r ++ [p]) H := by
  refine ⟨fun n a h => by rw [List.getElem?_append_left (List.getElem?_eq_some_iff.mp h).1]; exact h, fun a _ h => ⟨fun z => h.1 (List.mem_cons_of_mem _ z), fun z => ?_⟩, fun _ _ h _ => h, fun _ _ h => h, fun _ _ _ h => h⟩
  rcases List.mem_append.mp z with z | z
  · exact h.2 z
  · exact h.1 (by rw [List.mem_singleton.mp z]; exact List.mem_cons_self)
theorem StOk.adopt (S : StOk g (p :: F) r H M) (hF : p ∉ F) {c : Cn} (hc : CRep g F (r ++ [p]) H p c) : StOk g F (r ++ [p]) H (M ++ [c]) := by
  have of := S.offP hF
  refine ⟨by simp [S.len], ?_, fun b hb => ?_, fun b hb => S.liveF b (List.mem_cons_of_mem _ hb), fun n a c' e1 e2 => ?_⟩
  · rw [List.nodup_append]
    refine ⟨S.nd, by simp, fun a ha b hb => ?_⟩
    rw [List.mem_singleton.mp hb]
    exact fun z => of.2 (by rw [← z]; exact ha)
  · rcases List.mem_append.mp hb with hb | hb
    · exact fun z => S.off b hb (List.mem_cons_of_mem _ z)
    · rw [List.mem_singleton.mp hb]; exact hF
  · by_cases hn : n < r.length
    · rw [List.getElem?_append_left hn] at e1
      rw [List.getElem?_append_left (by rw [← S.len]; exact hn)] at e2
      exact (S.at_ n a c' e1 e2).mv .adopt rfl
    · have hl : n < (r ++ [p]).length := (List.getElem?_eq_some_iff.mp e1).1
      have hn' : n = r.length := by simp at hl; omega
      subst hn'
      rw [List.getElem?_append_right (Nat.le_refl _)] at e1
      rw [S.len, List.getElem?_append_right (Nat.le_refl _)] at e2
      simp at e1 e2
      subst e1 e2
      exact hc
/-- the whole step, over what was made -/
theorem Ext.over (x : Ext r (upd H p o) r' H') (hp : H p = none) : Ext r H r' H' := by
  have ne : ∀ {b u}, H b = some u → b ≠ p := fun e z => by subst z; rw [hp] at e; cases e
  obtain ⟨t, e, ht⟩ := x.new
  refine ⟨⟨t, e, fun b hb => ?_⟩, fun b u e hb => x.keep b u (by rw [upd_ne (ne e)]; exact e) hb, fun b xs e => x.tups b xs (by rw [upd_ne (ne e)]; exact e), fun b u xs e => x.frzs b u xs (by rw [upd_ne (ne e)]; exact e), fun b e => x.live b ?_⟩
  · have := ht b hb
    unfold upd at this
    split at this
    · cases this
    · exact this
  · unfold upd
    split
    · simp
    · exact e
theorem Ext.pokeO {u : HO} (x : Ext r H r' H') (hp : H p = none) : Ext r H r' (upd H' p u) := by
  have ne : ∀ {b u}, H b = some u → b ≠ p := fun e z => by subst z; rw [hp] at e; cases e
  refine ⟨x.new, fun b u e hb => by rw [upd_ne (ne e)]; exact x.keep b u e hb, fun b xs e => by rw [upd_ne (ne e)]; exact x.tups b xs e, fun b u xs e => by rw [upd_ne (ne e)]; exact x.frzs b u xs e, fun b e => ?_⟩
  unfold upd
  split
  · simp
  · exact x.live b e
theorem Ext.adopt (x : Ext r H r' H') (hp : H p = none) : Ext r H (r' ++ [p]) H' := by
  obtain ⟨t, rfl, ht⟩ := x.new
  refine ⟨⟨t ++ [p], by simp, fun b hb => ?_⟩, x.keep, x.tups, x.frzs, x.live⟩
  rcases List.mem_append.mp hb with hb | hb
  · exact ht b hb
  · rw [List.mem_singleton.mp hb]; exact hp
/-- what stands at p through a step that does not know it -/
theorem Ext.atP (x : Ext r H r' H') {u : HO} (hp : H p = some u) (hr : p ∉ r) : H' p = some u := x.keep p u hp hr
end
end Wf
set_option Elab.async false
set_option linter.all false
set_option maxRecDepth 100000
namespace Wf
open PySem PySem.Spec PyProof.Rows L2

inductive Op where | add | sub | mul | fdiv | mod | pow
  deriving DecidableEq, Repr
inductive Cm where | eq | ne | lt | le | gt | ge | is | isnt | isin | notin
  deriving DecidableEq, Repr
inductive Bi where | len | sum | tuple | list (m : Bool) | int | abs | min | max | all | any | repr | str
  deriving DecidableEq, Repr
inductive Tg where
  | nm (i : Nat)
  | tp (ts : List Tg)
mutual
inductive Ex where
  | var (i : Nat)
  | lit (d : D)
  | gl (x : Str) (d : D)
  | bin (o : Op) (m : Bool) (a b : Ex)
  | neg (a : Ex)
  | cmp (o : Cm) (a b : Ex)
  | chn (o p : Cm) (a b c : Ex)
  | and (a b : Ex)
  | or (a b : Ex)
  | not (a : Ex)
  | ife (c a b : Ex)
  | tup (xs : List Ex)
  | lst (m : Bool) (xs : List Ex)
  | dis (m : Bool) (ks : List Str) (xs : List Ex)
  | idx (a b : Ex)
  | slc (m : Bool) (a : Ex) (lo hi : Option Ex)
  | call (f : Nat) (xs : List Ex)
  | bi (b : Bi) (a : Ex)
  | lc (m : Bool) (vs : List Nat) (tg : Tg) (it : It) (c : Option Ex) (e : Ex)
  | app (a b : Ex)
  | extd (a b : Ex)
inductive It where
  | seq (a : Ex)
  | rng1 (a : Ex)
  | rng2 (a b : Ex)
  | zip (a b : Ex)
  | enm (a : Ex)
end
inductive Sm where
  | asg (t : Tg) (a : Ex)
  | sub (o i v : Ex)
  | ex (a : Ex)
  | ret (a : Ex)
  | ifs (c : Ex) (a b : List Sm)
  | whl (c : Ex) (a : List Sm)
  | fr (t : Tg) (it : It) (a : List Sm)
  | pas

mutual
def fzG (k : Nat → Option D) : D → Option D
  | .tup xs => (fzL k xs).map .tup
  | .lst xs => (fzL k xs).map .lst
  | .scr xs => (fzL k xs).map .scr
  | .sdc ks xs => (fzL k xs).map (.sdc ks)
  | .dct ks xs => (fzL k ks).bind fun ks' => (fzL k xs).map (.dct ks')
  | .ins c ns xs => (fzL k xs).map (.ins c ns)
  | .loc n => k n
  | .non => some .non
  | .bl b => some (.bl b)
  | .int i => some (.int i)
  | .str s => some (.str s)
  | .opq => some .opq
def fzL (k : Nat → Option D) : List D → Option (List D)
  | [] => some []
  | d :: ds => (fzG k d).bind fun d' => (fzL k ds).map (d' :: ·)
end
def fzN (M : Mem) : Nat → Nat → Option D
  | 0, _ => none
  | f + 1, n => match M[n]? with
    | some (.lst xs) => (fzL (fzN M f) xs).map .lst
    | some (.sdc ks xs) => (fzL (fzN M f) xs).map (.sdc ks)
    | some (.dct ks xs) => (fzL (fzN M f) ks).bind fun ks' => (fzL (fzN M f) xs).map (.dct ks')
    | some (.ins c ns xs) => (fzL (fzN M f) xs).map (.ins c ns)
    | none => none
def fz (M : Mem) (d : D) : Option D := fzG (fzN M 6) d
mutual
def py : D → Option PyData
  | .non => some .none
  | .bl b => some (.bool b)
  | .int i => some (.int i)
  | .str s => some (.str s)
  | .tup xs => (pyL xs).map .tuple
  | .lst xs => (pyL xs).map .list
  | .scr xs => (pyL xs).map .list
  | _ => none
def pyL : List D → Option (List PyData)
  | [] => some []
  | d :: ds => (py d).bind fun p => (pyL ds).map (p :: ·)
end
def pyM (M : Mem) (d : D) : Option PyData := (fz M d).bind py
/-- a list's or a tuple's items -/
def itemsL (M : Mem) : D → Option (List D)
  | .lst xs => some xs
  | .scr xs => some xs
  | .loc n => match M[n]? with
    | some (.lst xs) => some xs
    | _ => none
  | _ => none
def itemsO (M : Mem) : D → Option (List D)
  | .lst xs => some xs
  | .loc n => match M[n]? with
    | some (.lst xs) => some xs
    | _ => none
  | _ => none
/-- a mutable list: its number, what it holds -/
def locLst (M : Mem) : D → Option (Nat × List D)
  | .loc n => match M[n]? with
    | some (.lst xs) => some (n, xs)
    | _ => none
  | _ => none
def itemsT : D → Option (List D)
  | .tup xs => some xs
  | _ => none
def intsOf : List D → Option (List Int)
  | [] => some []
  | .int i :: ds => (intsOf ds).map (i :: ·)
  | _ :: _ => none
def blsOf : List D → Option (List Bool)
  | [] => some []
  | .bl b :: ds => (blsOf ds).map (b :: ·)
  | _ :: _ => none
/-- a list made: a value, or a mutable thing -/
def mkL (m : Bool) (xs : List D) (M : Mem) : Option (D × Mem) :=
  if xs.length ≤ sizeLine then (if m then some (.loc M.length, M ++ [.lst xs]) else some (.lst xs, M)) else none
def mkT (xs : List D) (M : Mem) : Option (D × Mem) := if xs.length ≤ sizeLine then some (.tup xs, M) else none

def opBin (o : Op) (m : Bool) (a b : D) (M : Mem) : Option (D × Mem) := match a, b with
  | .int i, .int j => match o with
    | .add => some (.int (i + j), M)
    | .sub => some (.int (i - j), M)
    | .mul => if (-(2 ^ 64) < i ∧ i < 2 ^ 64) ∨ (-(2 ^ 64) < j ∧ j < 2 ^ 64) then some (.int (i * j), M) else none
    | .fdiv => if 0 < j ∧ j < 1073741824 then some (.int (i / j), M) else none
    | .mod => if 0 < j then some (.int (i % j), M) else none
    | .pow => if 0 ≤ j ∧ j ≤ 1000000 ∧ i.natAbs < 2 ^ 64 then some (.int (i ^ j.toNat), M) else none
  | .str x, .str y => match o with
    | .add => if x.length + y.length ≤ sizeLine then some (.str (x ++ y), M) else none
    | _ => none
  | .tup xs, .tup ys => match o with
    | .add => mkT (xs ++ ys) M
    | _ => none
  | .tup xs, .int k => match o with
    | .mul => if xs.length = 1 ∧ 2 ≤ k ∧ k ≤ 1000000 then some (.tup (List.replicate k.toNat xs).flatten, M) else none
    | _ => none
  | a, b => match o with
    | .add => (itemsO M a).bind fun xs => (itemsO M b).bind fun ys => mkL m (xs ++ ys) M
    | _ => none
def isNon : D → Bool
  | .non => true
  | _ => false
/-- two texts compared -/
def sEq : D → D → Option Bool
  | .str x, .str y => some (decide (x = y))
  | _, _ => none
theorem sEq_some {a b : D} {k : Bool} (h : sEq a b = some k) : ∃ x y : Str, a = .str x ∧ b = .str y ∧ k = decide (x = y) := by
  unfold sEq at h
  split at h
  · cases h; exact ⟨_, _, rfl, rfl, rfl⟩
  · cases h
def opCmp (o : Cm) (a b : D) (M : Mem) : Option Bool := match o with
  | .eq => match sEq a b with
    | some k => some k
    | none => (pyM M a).bind fun p => (pyM M b).bind fun q => if SeqAt.shaped p = true ∧ SeqAt.shaped q = true then some (PyData.eqv p q) else none
  | .ne => match sEq a b with
    | some k => some (!k)
    | none => (pyM M a).bind fun p => (pyM M b).bind fun q => if SeqAt.shaped p = true ∧ SeqAt.shaped q = true then some (!PyData.eqv p q) else none
  | .is => if isNon b then some (isNon a) else none
  | .isnt => if isNon b then some (!isNon a) else none
  | .lt => match a, b with
    | .int i, .int j => some (decide (i < j))
    | _, _ => none
  | .le => match a, b with
    | .int i, .int j => some (decide (i ≤ j))
    | _, _ => none
  | .gt => match a, b with
    | .int i, .int j => some (decide (j < i))
    | _, _ => none
  | .ge => match a, b with
    | .int i, .int j => some (decide (j ≤ i))
    | _, _ => none
  | _ => none
/-- a dict with text keys -/
def dictS (M : Mem) : D → Option (List Str × List D)
  | .sdc ks xs => some (ks, xs)
  | .loc n => match M[n]? with
    | some (.sdc ks xs) => some (ks, xs)
    | _ => none
  | _ => none
def opIdx (a b : D) (M : Mem) : Option D := match a, b with
  | .tup xs, .int i => atI xs i
  | a, .int i => (itemsL M a).bind fun xs => atI xs i
  | a, .str k => (dictS M a).bind fun p => (p.1.zip p.2).lookup k
  | _, _ => none
def cutD (xs : List D) (lo hi : Option Int) : List D := (xs.drop (HT.sIx xs.length 0 lo)).take (HT.sIx xs.length xs.length hi - HT.sIx xs.length 0 lo)
def opSlc (m : Bool) (a : D) (lo hi : Option Int) (M : Mem) : Option (D × Mem) := match a with
  | .tup xs => some (.tup (cutD xs lo hi), M)
  | a => (itemsL M a).bind fun xs => mkL m (cutD xs lo hi) M
def partI : D → Option Int
  | .int i => some i
  | _ => none
def maxI : List Int → Option Int
  | [] => none
  | i :: is => match maxI is with
    | none => some i
    | some j => some (if i ≤ j then j else i)
def minI : List Int → Option Int
  | [] => none
  | i :: is => match minI is with
    | none => some i
    | some j => some (if j ≤ i then j else i)
def opBi (o : Bi) (a : D) (M : Mem) : Option (D × Mem) := match o with
  | .len => match a with
    | .tup xs => some (.int xs.length, M)
    | a => (itemsL M a).map fun xs => (.int xs.length, M)
  | .sum => (itemsL M a).bind fun xs => (intsOf xs).map fun ns => (.int ns.sum, M)
  | .max => (itemsL M a).bind fun xs => (intsOf xs).bind fun ns => (maxI ns).map fun m => (.int m, M)
  | .min => (itemsL M a).bind fun xs => (intsOf xs).bind fun ns => (minI ns).map fun m => (.int m, M)
  | .all => (itemsL M a).bind fun xs => (blsOf xs).map fun bs => (.bl (bs.all id), M)
  | .any => (itemsL M a).bind fun xs => (blsOf xs).map fun bs => (.bl (bs.any id), M)
  | .tuple => match a with
    | .tup xs => some (.tup xs, M)
    | a => (itemsL M a).map fun xs => (.tup xs, M)
  | .list m => match a with
    | .tup xs => mkL m xs M
    | a => (itemsL M a).bind fun xs => mkL m xs M
  | .int => match a with
    | .int i => some (.int i, M)
    | .bl b => some (.int (if b then 1 else 0), M)
    | _ => none
  | .abs => match a with
    | .int i => some (.int (if i < 0 then -i else i), M)
    | _ => none
  | .repr => (pyM M a).bind fun p => if p.showable = true ∧ p.shown.length ≤ sizeLine ∧ p.depth ≤ 60 ∧ p.hasDict = false then some (.str p.shown, M) else none
  | .str => match a with
    | .int i => if i.natAbs.log2 < 1920 then some (.str (toString i), M) else none
    | _ => none

/-- a store by values: a list's item, a dict's new text -/
def sbD (o i v : D) (M : Mem) : Option Mem := match o, i with
  | .loc n, .int k => match M[n]? with
    | some (.lst xs) => (ixN xs.length k).map fun j => M.set n (.lst (xs.set j v))
    | _ => none
  | .loc n, .str k => match M[n]? with
    | some (.sdc ks xs) => if k ∈ ks ∨ sizeLine ≤ ks.length then none else some (M.set n (.sdc (ks ++ [k]) (xs ++ [v])))
    | _ => none
  | _, _ => none

mutual
def bindT : Tg → D → Envi → Option Envi
  | .nm i, d, e => some (e.set i (some d))
  | .tp ts, .tup xs, e => bindTs ts xs e
  | .tp _, _, _ => none
def bindTs : List Tg → List D → Envi → Option Envi
  | [], [], e => some e
  | t :: ts, x :: xs, e => (bindT t x e).bind fun e' => bindTs ts xs e'
  | _, _, _ => none
end
inductive Src where
  | fix (ds : List D)
  | liv (n : Nat)
def Src.at (s : Src) (M : Mem) (i : Nat) : Option (Option D) := match s with
  | .fix ds => some ds[i]?
  | .liv n => match M[n]? with
    | some (.lst xs) => some xs[i]?
    | _ => none
def srcOf (M : Mem) : D → Option Src
  | .tup xs => some (.fix xs)
  | .lst xs => some (.fix xs)
  | .scr xs => some (.fix xs)
  | .loc n => match M[n]? with
    | some (.lst _) => some (.liv n)
    | _ => none
  | _ => none
def rngI (lo hi : Int) : List D := (List.range (hi - lo).toNat).map fun (k : Nat) => D.int (lo + (k : Int))
def enmI (xs : List D) : List D := (List.range xs.length).map fun (k : Nat) => D.tup [.int (k : Int), xs.getD k .non]
def zipI (xs ys : List D) : List D := (xs.zip ys).map fun p => D.tup [p.1, p.2]
def smallI (i : Int) : Bool := decide (-(2 ^ 62) ≤ i ∧ i < 2 ^ 62)

inductive Fl where
  | nx | rt (d : D) | bk | ct
abbrev Rr := Option (Fl × Envi × Mem)
/-- for: the fuel is the number of turns left to give -/
def forN (s : Src) (t : D → Envi → Option Envi) (b : Envi → Mem → Rr) : Nat → Nat → Envi → Mem → Rr
  | 0, _, _, _ => none
  | f + 1, i, e, M => match s.at M i with
    | none => none
    | some none => some (.nx, e, M)
    | some (some d) => match t d e with
      | none => none
      | some e1 => match b e1 M with
        | none => none
        | some (.nx, e2, M2) => forN s t b f (i + 1) e2 M2
        | some (.ct, e2, M2) => forN s t b f (i + 1) e2 M2
        | some (.bk, e2, M2) => some (.nx, e2, M2)
        | some (.rt d, e2, M2) => some (.rt d, e2, M2)
def whlN (c : Envi → Mem → Option (Bool × Mem)) (b : Envi → Mem → Rr) : Nat → Envi → Mem → Rr
  | 0, _, _ => none
  | f + 1, e, M => match c e M with
    | none => none
    | some (false, M1) => some (.nx, e, M1)
    | some (true, M1) => match b e M1 with
      | none => none
      | some (.nx, e2, M2) => whlN c b f e2 M2
      | some (.ct, e2, M2) => whlN c b f e2 M2
      | some (.bk, e2, M2) => some (.nx, e2, M2)
      | some (.rt d, e2, M2) => some (.rt d, e2, M2)
/-- a list comprehension's loop -/
def lcN (s : Src) (t : D → Envi → Option Envi) (c : Envi → Mem → Option (Bool × Mem)) (b : Envi → Mem → Option (D × Mem)) (e : Envi) : Nat → Nat → List D → Mem → Option (List D × Mem)
  | 0, _, _, _ => none
  | f + 1, i, acc, M => match s.at M i with
    | none => none
    | some none => some (acc, M)
    | some (some d) => match t d e with
      | none => none
      | some e1 => match c e1 M with
        | none => none
        | some (false, M1) => lcN s t c b e f (i + 1) acc M1
        | some (true, M1) => match b e1 M1 with
          | none => none
          | some (y, M2) => if acc.length < sizeLine then lcN s t c b e f (i + 1) (acc ++ [y]) M2 else none
def asB (o : Option (D × Mem)) : Option (Bool × Mem) := match o with
  | some (.bl b, M) => some (b, M)
  | _ => none

section
variable (W : Nat) (cl : Nat → List D → Mem → Option (D × Mem))
mutual
def ev : Ex → Envi → Mem → Option (D × Mem)
  | .var i, e, M => match e[i]? with
    | some (some d) => some (d, M)
    | _ => none
  | .lit d, _, M => some (d, M)
  | .gl _ d, _, M => some (d, M)
  | .bin o m a b, e, M => (ev a e M).bind fun p => (ev b e p.2).bind fun q => opBin o m p.1 q.1 q.2
  | .neg a, e, M => (ev a e M).bind fun p => match p.1 with
    | .int i => some (.int (-i), p.2)
    | _ => none
  | .cmp o a b, e, M => (ev a e M).bind fun p => (ev b e p.2).bind fun q => (opCmp o p.1 q.1 q.2).map fun k => (.bl k, q.2)
  | .chn o o2 a b c, e, M => (ev a e M).bind fun p => (ev b e p.2).bind fun q => (opCmp o p.1 q.1 q.2).bind fun k =>
      if k = true then (ev c e q.2).bind fun z => (opCmp o2 q.1 z.1 z.2).map fun k2 => (.bl k2, z.2) else some (.bl false, q.2)
  | .and a b, e, M => (asB (ev a e M)).bind fun p => if p.1 = true then ev b e p.2 else some (.bl false, p.2)
  | .or a b, e, M => (asB (ev a e M)).bind fun p => if p.1 = true then some (.bl true, p.2) else ev b e p.2
  | .not a, e, M => (asB (ev a e M)).map fun p => (.bl (!p.1), p.2)
  | .ife c a b, e, M => (asB (ev c e M)).bind fun p => if p.1 = true then ev a e p.2 else ev b e p.2
  | .tup xs, e, M => (evs xs e M).bind fun p => mkT p.1 p.2
  | .lst m xs, e, M => (evs xs e M).bind fun p => mkL m p.1 p.2
  | .dis m ks xs, e, M => (evs xs e M).bind fun p => if m then some (.loc p.2.length, p.2 ++ [.sdc ks p.1]) else some (.sdc ks p.1, p.2)
  | .idx a b, e, M => (ev a e M).bind fun p => (ev b e p.2).bind fun q => (opIdx p.1 q.1 q.2).map fun d => (d, q.2)
  | .slc m a lo hi, e, M => (ev a e M).bind fun p => (evo lo e p.2).bind fun q => (evo hi e q.2).bind fun z => opSlc m p.1 q.1 z.1 z.2
  | .call f xs, e, M => (evs xs e M).bind fun p => cl f p.1 p.2
  | .bi b a, e, M => (ev a e M).bind fun p => opBi b p.1 p.2
  | .lc m vs t it c a, e, M => (evi it e M).bind fun p =>
      (lcN p.1 (bindT t) (match c with
        | none => fun _ M => some (true, M)
        | some c => fun e M => asB (ev c e M)) (fun e M => ev a e M) (wipeE e vs) W 0 [] p.2).bind fun q => mkL m q.1 q.2
  | .app a b, e, M => (ev a e M).bind fun p => (locLst p.2 p.1).bind fun _ => (ev b e p.2).bind fun q => (locLst q.2 p.1).bind fun z =>
      if z.2.length < sizeLine then some (.non, q.2.set z.1 (.lst (z.2 ++ [q.1]))) else none
  | .extd a b, e, M => (ev a e M).bind fun p => (locLst p.2 p.1).bind fun _ => (ev b e p.2).bind fun q => (locLst q.2 p.1).bind fun z => (itemsO q.2 q.1).bind fun ys =>
      if z.2.length + ys.length ≤ sizeLine then some (.non, q.2.set z.1 (.lst (z.2 ++ ys))) else none
def evs : List Ex → Envi → Mem → Option (List D × Mem)
  | [], _, M => some ([], M)
  | x :: xs, e, M => (ev x e M).bind fun p => (evs xs e p.2).map fun q => (p.1 :: q.1, q.2)
def evo : Option Ex → Envi → Mem → Option (Option Int × Mem)
  | none, _, M => some (none, M)
  | some x, e, M => (ev x e M).bind fun p => (partI p.1).map fun i => (some i, p.2)
def evi : It → Envi → Mem → Option (Src × Mem)
  | .seq a, e, M => (ev a e M).bind fun p => (srcOf p.2 p.1).map fun s => (s, p.2)
  | .rng1 a, e, M => (ev a e M).bind fun p => match p.1 with
    | .int j => if smallI j then some (.fix (rngI 0 j), p.2) else none
    | _ => none
  | .rng2 a b, e, M => (ev a e M).bind fun p => (ev b e p.2).bind fun q => match p.1, q.1 with
    | .int i, .int j => if smallI i ∧ smallI j then some (.fix (rngI i j), q.2) else none
    | _, _ => none
  | .zip a b, e, M => (ev a e M).bind fun p => (ev b e p.2).bind fun q => match p.1, q.1 with
    | .tup xs, .tup ys => some (.fix (zipI xs ys), q.2)
    | .lst xs, .lst ys => some (.fix (zipI xs ys), q.2)
    | _, _ => none
  | .enm a, e, M => (ev a e M).bind fun p => match p.1 with
    | .lst xs => some (.fix (enmI xs), p.2)
    | _ => none
end
mutual
def ex : Sm → Envi → Mem → Rr
  | .asg t a, e, M => (ev W cl a e M).bind fun p => (bindT t p.1 e).map fun e' => (.nx, e', p.2)
  | .sub o i v, e, M => (ev W cl v e M).bind fun z => (ev W cl o e z.2).bind fun p => (ev W cl i e p.2).bind fun q => (sbD p.1 q.1 z.1 q.2).map fun M' => (.nx, e, M')
  | .ex a, e, M => (ev W cl a e M).map fun p => (.nx, e, p.2)
  | .ret a, e, M => (ev W cl a e M).map fun p => (.rt p.1, e, p.2)
  | .ifs c a b, e, M => (asB (ev W cl c e M)).bind fun p => if p.1 = true then exs a e p.2 else exs b e p.2
  | .whl c a, e, M => whlN (fun e M => asB (ev W cl c e M)) (fun e M => exs a e M) W e M
  | .fr t it a, e, M => (evi W cl it e M).bind fun p => forN p.1 (bindT t) (fun e M => exs a e M) W 0 e p.2
  | .pas, e, M => some (.nx, e, M)
def exs : List Sm → Envi → Mem → Rr
  | [], e, M => some (.nx, e, M)
  | s :: ss, e, M => (ex s e M).bind fun p => match p.1 with
    | .nx => exs ss p.2.1 p.2.2
    | f => some (f, p.2.1, p.2.2)
end
end
end Wf
set_option Elab.async false
set_option linter.all false
set_option maxRecDepth 100000
namespace Wf
open PySem PySem.Spec PyProof.Rows L2

abbrev EvD := Envi → Mem → Option (D × Mem)
abbrev EvB := Envi → Mem → Option (Bool × Mem)
abbrev EvL := Envi → Mem → Option (List D × Mem)
abbrev EvO := Envi → Mem → Option (Option Int × Mem)
section
variable (g : Gd)
/-- the reading of an expression by what it computes -/
def tD (f : EvD) : TE := fun σ H Q => ∃ F r e M d M', EnOk g F r H e σ ∧ StOk g F r H M ∧ f e M = some (d, M') ∧
  ∀ r' v H', Ext r H r' H' → StOk g F r' H' M' → Rep g F r' H' d v → Q v H'
def tDB (f : EvB) : TT := fun σ H Q => ∃ F r e M d M', EnOk g F r H e σ ∧ StOk g F r H M ∧ f e M = some (d, M') ∧
  ∀ r' H', Ext r H r' H' → StOk g F r' H' M' → Q d H'
def tDL (f : EvL) : TA := fun σ H Q => ∃ F r e M d M', EnOk g F r H e σ ∧ StOk g F r H M ∧ f e M = some (d, M') ∧
  ∀ r' vs H', Ext r H r' H' → StOk g F r' H' M' → RepL g F r' H' d vs → Q vs H'
def tDO (f : EvO) : TO := fun σ H Q => ∃ F r e M d M', EnOk g F r H e σ ∧ StOk g F r H M ∧ f e M = some (d, M') ∧
  ∀ r' H', Ext r H r' H' → StOk g F r' H' M' → Q d H'
end
abbrev gd (X : Cx) (ca : Nat → Addr) (dk : Obj → List (V × V) → Prop) : Gd := ⟨X.K, ca, dk⟩
section
variable (X : Cx) (ca : Nat → Addr) (dk : Obj → List (V × V) → Prop)
abbrev DE (e : Expr) (f : EvD) : Prop := PE X e (tD (gd X ca dk) f)
abbrev DT (e : Expr) (f : EvB) : Prop := PT X e (tDB (gd X ca dk) f)
abbrev DA (es : List Expr) (f : EvL) : Prop := PA X es (tDL (gd X ca dk) f)
abbrev DO (e : Option Expr) (f : EvO) : Prop := PO X e (tDO (gd X ca dk) f)
end

section
variable {X : Cx} {ca : Nat → Addr} {dk : Obj → List (V × V) → Prop} {a b c : Expr} {fa fb fc : EvD} {pos : Pos}
theorem PE.imp {e : Expr} {t u : TE} (h : PE X e t) (i : ∀ pins s σ H Q, Inv X pins σ H s → u σ H Q → t σ H Q) : PE X e u :=
  ⟨fun pins s σ H Q I q => h.run pins s σ H Q I (i pins s σ H Q I q)⟩
theorem PT.imp {e : Expr} {t u : TT} (h : PT X e t) (i : ∀ pins s σ H Q, Inv X pins σ H s → u σ H Q → t σ H Q) : PT X e u :=
  ⟨fun pins s σ H Q I q => h.run pins s σ H Q I (i pins s σ H Q I q)⟩
theorem PA.imp {e : List Expr} {t u : TA} (h : PA X e t) (i : ∀ pins s σ H Q, Inv X pins σ H s → u σ H Q → t σ H Q) : PA X e u :=
  ⟨fun p pins s σ H Q I q => h.run p pins s σ H Q I (i pins s σ H Q I q)⟩
theorem bind_some {α β : Type} {o : Option α} {f : α → Option β} {y : β} (h : o.bind f = some y) : ∃ x, o = some x ∧ f x = some y := Option.bind_eq_some_iff.mp h
theorem map_some {α β : Type} {o : Option α} {f : α → β} {y : β} (h : o.map f = some y) : ∃ x, o = some x ∧ f x = y := Option.map_eq_some_iff.mp h

theorem de_var {i : Nat} {x : Str} (hN : X.N[i]? = some x) (hv : Vis X.env.scope x) (hd : (x == ("__debug__" : Str)) = false) (hcd : (x == ("__classdict__" : Str)) = false) :
    DE X ca dk (.Name x pos) fun e M => match e[i]? with
      | some (some d) => some (d, M)
      | _ => none := by
  refine PE.imp (pe_var (i := i) hN hv hd hcd) fun pins s σ H Q I h => ?_
  obtain ⟨F, r, e, M, d, M', E, S, hf, q⟩ := h
  dsimp only at hf
  split at hf
  · rename_i d' he
    cases hf
    obtain ⟨v, h1, h2⟩ := E.at_ i d he
    exact ⟨v, h1, q r v H Ext.refl S h2⟩
  · cases hf
/-- a constant: whatever the heap -/
theorem de_const {e : Expr} {v : V} {d : D} (h : PE X e (tC v)) (hr : ∀ F r H, Rep (gd X ca dk) F r H d v) : DE X ca dk e fun _ M => some (d, M) := by
  refine PE.imp h fun pins s σ H Q I h => ?_
  obtain ⟨F, r, e, M, d', M', E, S, hf, q⟩ := h
  cases hf
  exact q r v H Ext.refl S (hr F r H)
theorem de_int {i : Int} {j : Nat} : DE X ca dk (.Constant (.int i) j pos) fun _ M => some (.int i, M) := de_const pe_int fun _ _ _ => by simp [Rep]
theorem de_bl {i : Bool} {j : Nat} : DE X ca dk (.Constant (.bool i) j pos) fun _ M => some (.bl i, M) := de_const pe_bl fun _ _ _ => by simp [Rep]
theorem de_str {i : Str} {j : Nat} : DE X ca dk (.Constant (.str i) j pos) fun _ M => some (.str i, M) := de_const pe_str fun _ _ _ => by simp [Rep]
theorem de_non {j : Nat} : DE X ca dk (.Constant .none j pos) fun _ M => some (.non, M) := de_const pe_non fun _ _ _ => by simp [Rep]


variable {F ρ : List Addr} {H : Hp} {M : Mem}
theorem items_at (S : StOk (gd X ca dk) F ρ H M) {d : D} {v : V} {xs : List D} (h : itemsL M d = some xs) (R : Rep (gd X ca dk) F ρ H d v) :
    ∃ a vs, v = .ref a ∧ SqL X.K H a vs ∧ RepL (gd X ca dk) F ρ H xs vs := by
  cases d with
  | lst ys =>
    cases h
    simp only [Rep] at R
    obtain ⟨a, vs, e, hs, _, hl⟩ := R
    exact ⟨a, vs, e, .inl (.inl hs), hl⟩
  | scr ys =>
    cases h
    simp only [Rep] at R
    obtain ⟨a, vs, e, hs, hl⟩ := R
    refine ⟨a, vs, e, ?_, hl⟩
    rcases hs with ⟨o, hs⟩ | hs
    · exact .inl (.inr ⟨o, hs⟩)
    · exact hs H
  | loc n =>
    simp only [itemsL] at h
    split at h
    · rename_i ys e
      cases h
      simp only [Rep] at R
      obtain ⟨a, ha, rfl⟩ := R
      obtain ⟨vs, e1, hl⟩ := S.at_ n a _ ha e
      exact ⟨a, vs, rfl, .inl (.inl e1), hl⟩
    · cases h
  | _ => cases h
/-- a list of the call's own (no script) -/
theorem items_own (S : StOk (gd X ca dk) F ρ H M) {d : D} {v : V} {xs : List D} (h : itemsO M d = some xs) (R : Rep (gd X ca dk) F ρ H d v) :
    ∃ a vs, v = .ref a ∧ H a = some (.lst vs) ∧ RepL (gd X ca dk) F ρ H xs vs := by
  cases d with
  | lst ys =>
    cases h
    simp only [Rep] at R
    obtain ⟨a, vs, e, hs, _, hl⟩ := R
    exact ⟨a, vs, e, hs, hl⟩
  | loc n =>
    simp only [itemsO] at h
    split at h
    · rename_i ys e
      cases h
      simp only [Rep] at R
      obtain ⟨a, ha, rfl⟩ := R
      obtain ⟨vs, e1, hl⟩ := S.at_ n a _ ha e
      exact ⟨a, vs, rfl, e1, hl⟩
    · cases h
  | _ => cases h
theorem intsOf_eq : ∀ {xs : List D} {ns : List Int}, intsOf xs = some ns → xs = ns.map D.int
  | [], _, h => by cases h; rfl
  | d :: ds, ns, h => by
    cases d with
    | int i =>
      simp only [intsOf] at h
      obtain ⟨ms, h1, rfl⟩ := map_some h
      rw [intsOf_eq h1]; rfl
    | _ => simp [intsOf] at h
theorem blsOf_eq : ∀ {xs : List D} {ns : List Bool}, blsOf xs = some ns → xs = ns.map D.bl
  | [], _, h => by cases h; rfl
  | d :: ds, ns, h => by
    cases d with
    | bl i =>
      simp only [blsOf] at h
      obtain ⟨ms, h1, rfl⟩ := map_some h
      rw [blsOf_eq h1]; rfl
    | _ => simp [blsOf] at h

section
variable {k : Nat → Option D}
mutual
theorem dp_of (hk : ∀ n d' p a, k n = some d' → py d' = some p → ρ[n]? = some a → Dp X.K H (.ref a) p) :
    ∀ {d d' : D} {v : V} {p : PyData}, fzG k d = some d' → py d' = some p → Rep (gd X ca dk) F ρ H d v → Dp X.K H v p
  | .non, _, _, _, h, hp, R => by cases h; cases hp; simp only [Rep] at R; subst R; exact .non
  | .bl b, _, _, _, h, hp, R => by cases h; cases hp; simp only [Rep] at R; subst R; exact .bl b
  | .int b, _, _, _, h, hp, R => by cases h; cases hp; simp only [Rep] at R; subst R; exact .int b
  | .str b, _, _, _, h, hp, R => by cases h; cases hp; simp only [Rep] at R; subst R; exact .str b
  | .opq, _, _, _, h, hp, R => by cases h; cases hp
  | .tup xs, _, _, _, h, hp, R => by
    simp only [fzG] at h
    obtain ⟨ys, h1, rfl⟩ := map_some h
    simp only [py] at hp
    obtain ⟨ps, h2, rfl⟩ := map_some hp
    simp only [Rep] at R
    obtain ⟨a, vs, rfl, hs, hl⟩ := R
    exact .tup hs (dpL_of hk h1 h2 hl)
  | .lst xs, _, _, _, h, hp, R => by
    simp only [fzG] at h
    obtain ⟨ys, h1, rfl⟩ := map_some h
    simp only [py] at hp
    obtain ⟨ps, h2, rfl⟩ := map_some hp
    simp only [Rep] at R
    obtain ⟨a, vs, rfl, hs, _, hl⟩ := R
    exact .lst (.inl (.inl hs)) (dpL_of hk h1 h2 hl)
  | .scr xs, _, _, _, h, hp, R => by
    simp only [fzG] at h
    obtain ⟨ys, h1, rfl⟩ := map_some h
    simp only [py] at hp
    obtain ⟨ps, h2, rfl⟩ := map_some hp
    simp only [Rep] at R
    obtain ⟨a, vs, rfl, hs, hl⟩ := R
    refine .lst ?_ (dpL_of hk h1 h2 hl)
    rcases hs with ⟨o, hs⟩ | hs
    · exact .inl (.inr ⟨o, hs⟩)
    · exact hs H
  | .sdc _ _, _, _, _, h, hp, R => by
    simp only [fzG] at h
    obtain ⟨ys, h1, rfl⟩ := map_some h
    simp [py] at hp
  | .dct _ _, _, _, _, h, hp, R => by
    simp only [fzG] at h
    obtain ⟨ys, h1, h⟩ := bind_some h
    obtain ⟨zs, h2, rfl⟩ := map_some h
    simp [py] at hp
  | .ins _ _ _, _, _, _, h, hp, R => by
    simp only [fzG] at h
    obtain ⟨ys, h1, rfl⟩ := map_some h
    simp [py] at hp
  | .loc n, _, _, _, h, hp, R => by
    simp only [fzG] at h
    simp only [Rep] at R
    obtain ⟨a, ha, rfl⟩ := R
    exact hk n _ _ a h hp ha
theorem dpL_of (hk : ∀ n d' p a, k n = some d' → py d' = some p → ρ[n]? = some a → Dp X.K H (.ref a) p) :
    ∀ {ds ds' : List D} {vs : List V} {ps : List PyData}, fzL k ds = some ds' → pyL ds' = some ps → RepL (gd X ca dk) F ρ H ds vs → DpAll X.K H vs ps
  | [], _, _, _, h, hp, R => by cases h; cases hp; rw [repL_nil_iff R]; exact .nil
  | d :: ds, _, _, _, h, hp, R => by
    simp only [fzL] at h
    obtain ⟨d', h1, h⟩ := bind_some h
    obtain ⟨ds', h2, rfl⟩ := map_some h
    simp only [pyL] at hp
    obtain ⟨p, hp1, hp⟩ := bind_some hp
    obtain ⟨ps', hp2, rfl⟩ := map_some hp
    obtain ⟨v, w, rfl, r1, r2⟩ := repL_cons_iff R
    exact .cons (dp_of hk h1 hp1 r1) (dpL_of hk h2 hp2 r2)
end
end
theorem fzN_dp (S : StOk (gd X ca dk) F ρ H M) : ∀ (f n : Nat) (d' : D) (p : PyData) (a : Addr), fzN M f n = some d' → py d' = some p → ρ[n]? = some a → Dp X.K H (.ref a) p
  | 0, _, _, _, _, h, _, _ => by cases h
  | f + 1, n, d', p, a, h, hp, ha => by
    simp only [fzN] at h
    split at h
    · rename_i xs e
      obtain ⟨ys, h1, rfl⟩ := map_some h
      simp only [py] at hp
      obtain ⟨ps, h2, rfl⟩ := map_some hp
      obtain ⟨vs, e1, hl⟩ := S.at_ n a _ ha e
      exact .lst (.inl (.inl e1)) (dpL_of (fun n d' p a => fzN_dp S f n d' p a) h1 h2 hl)
    · obtain ⟨ys, h1, rfl⟩ := map_some h
      simp [py] at hp
    · obtain ⟨ys, h1, h⟩ := bind_some h
      obtain ⟨zs, h2, rfl⟩ := map_some h
      simp [py] at hp
    · obtain ⟨ys, h1, rfl⟩ := map_some h
      simp [py] at hp
    · cases h
theorem pyM_dp (S : StOk (gd X ca dk) F ρ H M) {d : D} {v : V} {p : PyData} (h : pyM M d = some p) (R : Rep (gd X ca dk) F ρ H d v) : Dp X.K H v p := by
  obtain ⟨d', h1, h2⟩ := bind_some h
  exact dp_of (fun n d' p a => fzN_dp S 6 n d' p a) h1 h2 R

section
variable {Q : VK} {d : D} {M' : Mem}
/-- a new list object, told as a value or as a mutable thing -/
theorem made_list (S : StOk (gd X ca dk) F ρ H M) {m : Bool} {xs : List D} {vs : List V} (h : mkL m xs M = some (d, M')) (R : RepL (gd X ca dk) F ρ H xs vs)
    (q : ∀ r' u H', Ext ρ H r' H' → StOk (gd X ca dk) F r' H' M' → Rep (gd X ca dk) F r' H' d u → Q u H') : vs.length ≤ sizeLine ∧ ∀ p, H p = none → Q (.ref p) (upd H p (.lst vs)) := by
  unfold mkL at h
  split at h
  · rename_i hz
    refine ⟨by rw [← R.length]; exact hz, fun p hp => ?_⟩
    have off := S.offNew hp
    cases m with
    | false =>
      rw [if_neg (by decide)] at h
      cases h
      refine q ρ _ _ (Ext.laid hp) (S.laid hp) ?_
      simp only [Rep]
      exact ⟨p, vs, rfl, upd_same, off, RepL.ext (Ext.laid hp) R⟩
    | true =>
      rw [if_pos rfl] at h
      cases h
      refine q (ρ ++ [p]) _ _ (Ext.laidM hp) (S.new hp ⟨vs, upd_same, RepL.ext (Ext.laidM hp) R⟩) ?_
      simp only [Rep]
      exact ⟨p, by rw [← S.len, List.getElem?_append_right (Nat.le_refl _)]; simp, rfl⟩
  · cases h
theorem made_tup (S : StOk (gd X ca dk) F ρ H M) {xs : List D} {vs : List V} (h : mkT xs M = some (d, M')) (R : RepL (gd X ca dk) F ρ H xs vs)
    (q : ∀ r' u H', Ext ρ H r' H' → StOk (gd X ca dk) F r' H' M' → Rep (gd X ca dk) F r' H' d u → Q u H') : vs.length ≤ sizeLine ∧ ∀ p, H p = none → Q (.ref p) (upd H p (.tup vs)) := by
  unfold mkT at h
  split at h
  · rename_i hz
    cases h
    refine ⟨by rw [← R.length]; exact hz, fun p hp => q ρ _ _ (Ext.laid hp) (S.laid hp) ?_⟩
    simp only [Rep]
    exact ⟨p, vs, rfl, .inl (.inl upd_same), RepL.ext (Ext.laid hp) R⟩
  · cases h
end
end

section
variable (X : Cx) (ca : Nat → Addr) (dk : Obj → List (V × V) → Prop)
/-- an operator's reading by what it computes -/
def rD (f : D → D → Mem → Option (D × Mem)) : R2 := fun x y H Q => ∃ F ρ M a b d M', StOk (gd X ca dk) F ρ H M ∧ Rep (gd X ca dk) F ρ H a x ∧ Rep (gd X ca dk) F ρ H b y ∧ f a b M = some (d, M') ∧
  ∀ r' u H', Ext ρ H r' H' → StOk (gd X ca dk) F r' H' M' → Rep (gd X ca dk) F r' H' d u → Q u H'
def rC (f : D → Mem → Option (D × Mem)) : List V → Hp → VK → Prop := fun xs H Q => ∃ F ρ M a x d M', xs = [x] ∧ StOk (gd X ca dk) F ρ H M ∧ Rep (gd X ca dk) F ρ H a x ∧ f a M = some (d, M') ∧
  ∀ r' u H', Ext ρ H r' H' → StOk (gd X ca dk) F r' H' M' → Rep (gd X ca dk) F r' H' d u → Q u H'
end
section
variable {X : Cx} {ca : Nat → Addr} {dk : Obj → List (V × V) → Prop} {a b c : Expr} {fa fb fc : EvD} {pos : Pos}
theorem two_rd {f : D → D → Mem → Option (D × Mem)} {σ : L2.St} {H : Hp} {Q : VK} (h : tD (gd X ca dk) (fun e M => (fa e M).bind fun p => (fb e p.2).bind fun q => f p.1 q.1 q.2) σ H Q) :
    tOp (rD X ca dk f) (tD (gd X ca dk) fa) (tD (gd X ca dk) fb) σ H Q := by
  obtain ⟨F, r, e, M, d, M', E, S, hf, q⟩ := h
  obtain ⟨⟨x, M1⟩, h1, hf⟩ := bind_some hf
  obtain ⟨⟨y, M2⟩, h2, hf⟩ := bind_some hf
  refine ⟨F, r, e, M, x, M1, E, S, h1, fun r1 v H1 x1 S1 R1 => ⟨F, r1, e, M1, y, M2, E.ext x1, S1, h2, fun r2 w H2 x2 S2 R2 => ?_⟩⟩
  exact ⟨F, r2, M2, x, y, d, M', S2, Rep.ext x2 R1, R2, hf, fun r' u H' x3 => q r' u H' ((x1.trans x2).trans x3)⟩
theorem de_bin {op : Operator} {o : Op} {m : Bool} (ho : OpR X (binaryOp op) (rD X ca dk (opBin o m))) (ha : DE X ca dk a fa) (hb : DE X ca dk b fb) :
    DE X ca dk (.BinOp a op b pos) fun e M => (fa e M).bind fun p => (fb e p.2).bind fun q => opBin o m p.1 q.1 q.2 :=
  PE.imp (pe_op ho ha hb) fun _ _ _ _ _ _ h => two_rd h
/-- a comparison as an operator -/
def cmD (o : Cm) : D → D → Mem → Option (D × Mem) := fun x y M => (opCmp o x y M).map fun k => (.bl k, M)
theorem de_cmp {op : CmpOp} {o : Cm} (ho : OpR X (compareOp op) (rD X ca dk (cmD o))) (ha : DE X ca dk a fa) (hb : DE X ca dk b fb) (hm : behindInMarks op b = false) :
    DE X ca dk (.Compare a [op] [b] pos) fun e M => (fa e M).bind fun p => (fb e p.2).bind fun q => (opCmp o p.1 q.1 q.2).map fun k => (.bl k, q.2) :=
  PE.imp (pe_cmpR ho ha hb hm) fun _ _ _ _ _ _ h => two_rd h
/-- a value read as a test -/
theorem tDB_asB {f : EvD} {σ : L2.St} {H : Hp} {Q : Bool → Hp → Prop} (h : tDB (gd X ca dk) (fun e M => asB (f e M)) σ H Q) : tD (gd X ca dk) f σ H fun x H' => ∃ k, x = .bl k ∧ Q k H' := by
  obtain ⟨F, r, e, M, d, M', E, S, hf, q⟩ := h
  simp only [asB] at hf
  split at hf
  · rename_i b M2 e1
    cases hf
    refine ⟨F, r, e, M, _, _, E, S, e1, fun r' v H' x S' R => ⟨d, ?_, q r' H' x S'⟩⟩
    simpa [Rep] using R
  · cases hf
theorem dt_cmp {op : CmpOp} {o : Cm} (ho : OpR X (compareOp op) (rD X ca dk (cmD o))) (ha : DE X ca dk a fa) (hb : DE X ca dk b fb) (hm : behindInMarks op b = false) :
    DT X ca dk (.Compare a [op] [b] pos) fun e M => asB ((fa e M).bind fun p => (fb e p.2).bind fun q => (opCmp o p.1 q.1 q.2).map fun k => (.bl k, q.2)) :=
  PT.imp (pt_cmpR ho ha hb hm) fun _ _ _ _ _ _ h => two_rd (tDB_asB h)
/-- any expression that gives a bool, as a test -/
theorem dt_val {e : Expr} {f : EvD} (h : DE X ca dk e f) (he : ∀ whole, isTrue e X.env whole = (do let v ← whole; standAt e.pos; holding [v] (truthy v))) : DT X ca dk e fun en M => asB (f en M) :=
  PT.imp (pt_val h he) fun _ _ _ _ _ _ h => tDB_asB h
theorem chain_rd {o o2 : Cm} {σ : L2.St} {H : Hp} {Q : VK} (h : tD (gd X ca dk) (fun e M => (fa e M).bind fun p => (fb e p.2).bind fun q => (opCmp o p.1 q.1 q.2).bind fun k =>
      if k = true then (fc e q.2).bind fun z => (opCmp o2 q.1 z.1 z.2).map fun k2 => (.bl k2, z.2) else some (.bl false, q.2)) σ H Q) :
    tChain (rD X ca dk (cmD o)) (rD X ca dk (cmD o2)) (tD (gd X ca dk) fa) (tD (gd X ca dk) fb) (tD (gd X ca dk) fc) σ H Q := by
  obtain ⟨F, r, e, M, d, M', E, S, hf, q⟩ := h
  obtain ⟨⟨x, M1⟩, h1, hf⟩ := bind_some hf
  obtain ⟨⟨y, M2⟩, h2, hf⟩ := bind_some hf
  obtain ⟨k, h3, hf⟩ := bind_some hf
  refine ⟨F, r, e, M, x, M1, E, S, h1, fun r1 v H1 x1 S1 R1 => ⟨F, r1, e, M1, y, M2, E.ext x1, S1, h2, fun r2 w H2 x2 S2 R2 => ?_⟩⟩
  refine ⟨F, r2, M2, x, y, .bl k, M2, S2, Rep.ext x2 R1, R2, by simp only [cmD]; rw [h3]; rfl, fun r3 u H3 x3 S3 R3 => ?_⟩
  simp only [Rep] at R3
  refine ⟨k, R3, ?_⟩
  cases k with
  | false =>
    rw [if_neg Bool.false_ne_true] at hf ⊢
    cases hf
    exact q r3 _ H3 ((x1.trans x2).trans x3) S3 (by simp [Rep])
  | true =>
    rw [if_pos rfl] at hf ⊢
    obtain ⟨⟨z, M3⟩, h4, hf⟩ := bind_some hf
    refine ⟨F, r3, e, M2, z, M3, (E.ext x1).ext (x2.trans x3), S3, h4, fun r4 w' H4 x4 S4 R4 => ?_⟩
    exact ⟨F, r4, M3, y, z, d, M', S4, Rep.ext (x3.trans x4) R2, R4, hf, fun r' u H' x5 => q r' u H' ((((x1.trans x2).trans x3).trans x4).trans x5)⟩
theorem de_chain {op op2 : CmpOp} {o o2 : Cm} (ho : OpR X (compareOp op) (rD X ca dk (cmD o))) (ho2 : OpR X (compareOp op2) (rD X ca dk (cmD o2))) (ha : DE X ca dk a fa) (hb : DE X ca dk b fb) (hc : DE X ca dk c fc)
    (hm : lastMarks [op, op2] [b, c] = false) :
    DE X ca dk (.Compare a [op, op2] [b, c] pos) fun e M => (fa e M).bind fun p => (fb e p.2).bind fun q => (opCmp o p.1 q.1 q.2).bind fun k =>
      if k = true then (fc e q.2).bind fun z => (opCmp o2 q.1 z.1 z.2).map fun k2 => (.bl k2, z.2) else some (.bl false, q.2) :=
  PE.imp (pe_chain ho ho2 ha hb hc hm) fun _ _ _ _ _ _ h => chain_rd h
theorem dt_chain {op op2 : CmpOp} {o o2 : Cm} (ho : OpR X (compareOp op) (rD X ca dk (cmD o))) (ho2 : OpR X (compareOp op2) (rD X ca dk (cmD o2))) (ha : DE X ca dk a fa) (hb : DE X ca dk b fb) (hc : DE X ca dk c fc)
    (hm : lastMarks [op, op2] [b, c] = false) :
    DT X ca dk (.Compare a [op, op2] [b, c] pos) fun e M => asB ((fa e M).bind fun p => (fb e p.2).bind fun q => (opCmp o p.1 q.1 q.2).bind fun k =>
      if k = true then (fc e q.2).bind fun z => (opCmp o2 q.1 z.1 z.2).map fun k2 => (.bl k2, z.2) else some (.bl false, q.2)) :=
  PT.imp (pt_chain ho ho2 ha hb hc hm) fun _ _ _ _ _ _ h => chain_rd (tDB_asB h)

theorem asB_some {o : Option (D × Mem)} {b : Bool} {M : Mem} (h : asB o = some (b, M)) : o = some (.bl b, M) := by
  simp only [asB] at h
  split at h
  · cases h; rfl
  · cases h
theorem de_and {rest : List Expr} (ha : DE X ca dk a fa) (hb : DE X ca dk (.BoolOp .And (b :: rest) pos) fb) :
    DE X ca dk (.BoolOp .And (a :: b :: rest) pos) fun e M => (asB (fa e M)).bind fun p => if p.1 = true then fb e p.2 else some (.bl false, p.2) := by
  refine PE.imp (pe_and ha hb) fun pins s σ H Q I h => ?_
  obtain ⟨F, r, e, M, d, M', E, S, hf, q⟩ := h
  obtain ⟨⟨k, M1⟩, h1, hf⟩ := bind_some hf
  refine ⟨F, r, e, M, _, M1, E, S, asB_some h1, fun r1 v H1 x1 S1 R1 => ⟨k, by simpa [Rep] using R1, ?_⟩⟩
  cases k with
  | false =>
    rw [if_neg Bool.false_ne_true] at hf ⊢
    cases hf
    exact q r1 _ H1 x1 S1 (by simp [Rep])
  | true =>
    rw [if_pos rfl] at hf ⊢
    exact ⟨F, r1, e, M1, d, M', E.ext x1, S1, hf, fun r2 u H2 x2 => q r2 u H2 (x1.trans x2)⟩
theorem de_or {rest : List Expr} (ha : DE X ca dk a fa) (hb : DE X ca dk (.BoolOp .Or (b :: rest) pos) fb) :
    DE X ca dk (.BoolOp .Or (a :: b :: rest) pos) fun e M => (asB (fa e M)).bind fun p => if p.1 = true then some (.bl true, p.2) else fb e p.2 := by
  refine PE.imp (pe_or ha hb) fun pins s σ H Q I h => ?_
  obtain ⟨F, r, e, M, d, M', E, S, hf, q⟩ := h
  obtain ⟨⟨k, M1⟩, h1, hf⟩ := bind_some hf
  refine ⟨F, r, e, M, _, M1, E, S, asB_some h1, fun r1 v H1 x1 S1 R1 => ⟨k, by simpa [Rep] using R1, ?_⟩⟩
  cases k with
  | true =>
    rw [if_pos rfl] at hf ⊢
    cases hf
    exact q r1 _ H1 x1 S1 (by simp [Rep])
  | false =>
    rw [if_neg Bool.false_ne_true] at hf ⊢
    exact ⟨F, r1, e, M1, d, M', E.ext x1, S1, hf, fun r2 u H2 x2 => q r2 u H2 (x1.trans x2)⟩
theorem de_one {op : BoolOp} (ha : DE X ca dk a fa) : DE X ca dk (.BoolOp op [a] pos) fa := pe_one ha
theorem de_not (ha : DE X ca dk a fa) : DE X ca dk (.UnaryOp .Not a pos) fun e M => (asB (fa e M)).map fun p => (.bl (!p.1), p.2) := by
  refine PE.imp (pe_not ha) fun pins s σ H Q I h => ?_
  obtain ⟨F, r, e, M, d, M', E, S, hf, q⟩ := h
  obtain ⟨⟨k, M1⟩, h1, hf⟩ := map_some hf
  cases hf
  exact ⟨F, r, e, M, _, M1, E, S, asB_some h1, fun r1 v H1 x1 S1 R1 => ⟨k, by simpa [Rep] using R1, q r1 _ H1 x1 S1 (by simp [Rep])⟩⟩
abbrev DW (X : Cx) (ca : Nat → Addr) (dk : Obj → List (V × V) → Prop) (e : Expr) (f : EvB) : Prop := PW X e (tDB (gd X ca dk) f)
theorem PW.imp {e : Expr} {t u : TT} (h : PW X e t) (i : ∀ pins s σ H Q, Inv X pins σ H s → u σ H Q → t σ H Q) : PW X e u :=
  ⟨fun w pins s σ H Q I q => h.run w pins s σ H Q I (i pins s σ H Q I q)⟩
theorem asB_bind {α : Type} {o : Option α} {f : α → Option (D × Mem)} : asB (o.bind f) = o.bind fun x => asB (f x) := by cases o <;> rfl
theorem dw_and {rest : List Expr} (ha : DT X ca dk a fun e M => asB (fa e M)) (hb : DW X ca dk (.BoolOp .And (b :: rest) pos) fun e M => asB (fb e M)) :
    DW X ca dk (.BoolOp .And (a :: b :: rest) pos) fun e M => asB ((asB (fa e M)).bind fun p => if p.1 = true then fb e p.2 else some (.bl false, p.2)) := by
  refine PW.imp (pw_and ha hb) fun pins s σ H Q I h => ?_
  obtain ⟨F, r, e, M, d, M', E, S, hf, q⟩ := h
  simp only [asB_bind] at hf
  obtain ⟨⟨k, M1⟩, h1, hf⟩ := bind_some hf
  refine ⟨F, r, e, M, k, M1, E, S, h1, fun r1 H1 x1 S1 => ?_⟩
  cases k with
  | false =>
    rw [if_neg Bool.false_ne_true] at hf ⊢
    cases hf
    exact q r1 H1 x1 S1
  | true =>
    rw [if_pos rfl] at hf ⊢
    exact ⟨F, r1, e, M1, d, M', E.ext x1, S1, hf, fun r2 H2 x2 => q r2 H2 (x1.trans x2)⟩
theorem dw_or {rest : List Expr} (ha : DT X ca dk a fun e M => asB (fa e M)) (hb : DW X ca dk (.BoolOp .Or (b :: rest) pos) fun e M => asB (fb e M)) :
    DW X ca dk (.BoolOp .Or (a :: b :: rest) pos) fun e M => asB ((asB (fa e M)).bind fun p => if p.1 = true then some (.bl true, p.2) else fb e p.2) := by
  refine PW.imp (pw_or ha hb) fun pins s σ H Q I h => ?_
  obtain ⟨F, r, e, M, d, M', E, S, hf, q⟩ := h
  simp only [asB_bind] at hf
  obtain ⟨⟨k, M1⟩, h1, hf⟩ := bind_some hf
  refine ⟨F, r, e, M, k, M1, E, S, h1, fun r1 H1 x1 S1 => ?_⟩
  cases k with
  | true =>
    rw [if_pos rfl] at hf ⊢
    cases hf
    exact q r1 H1 x1 S1
  | false =>
    rw [if_neg Bool.false_ne_true] at hf ⊢
    exact ⟨F, r1, e, M1, d, M', E.ext x1, S1, hf, fun r2 H2 x2 => q r2 H2 (x1.trans x2)⟩
theorem dt_not (ha : DT X ca dk a fun e M => asB (fa e M)) : DT X ca dk (.UnaryOp .Not a pos) fun e M => asB ((asB (fa e M)).map fun p => (.bl (!p.1), p.2)) := by
  refine PT.imp (pt_not ha) fun pins s σ H Q I h => ?_
  obtain ⟨F, r, e, M, d, M', E, S, hf, q⟩ := h
  have hf := asB_some hf
  obtain ⟨⟨k, M1⟩, h1, hf⟩ := map_some hf
  cases hf
  exact ⟨F, r, e, M, k, M1, E, S, h1, fun r1 H1 x1 S1 => q r1 H1 x1 S1⟩
theorem de_ife (hc : DT X ca dk c fun e M => asB (fc e M)) (ha : DE X ca dk a fa) (hb : DE X ca dk b fb) :
    DE X ca dk (.IfExp c a b pos) fun e M => (asB (fc e M)).bind fun p => if p.1 = true then fa e p.2 else fb e p.2 := by
  refine PE.imp (pe_ifExp hc ha hb) fun pins s σ H Q I h => ?_
  obtain ⟨F, r, e, M, d, M', E, S, hf, q⟩ := h
  obtain ⟨⟨k, M1⟩, h1, hf⟩ := bind_some hf
  refine ⟨F, r, e, M, k, M1, E, S, h1, fun r1 H1 x1 S1 => ?_⟩
  cases k with
  | true =>
    rw [if_pos rfl] at hf ⊢
    exact ⟨F, r1, e, M1, d, M', E.ext x1, S1, hf, fun r2 u H2 x2 => q r2 u H2 (x1.trans x2)⟩
  | false =>
    rw [if_neg Bool.false_ne_true] at hf ⊢
    exact ⟨F, r1, e, M1, d, M', E.ext x1, S1, hf, fun r2 u H2 x2 => q r2 u H2 (x1.trans x2)⟩
theorem de_neg (ha : DE X ca dk a fa) : DE X ca dk (.UnaryOp .USub a pos) fun e M => (fa e M).bind fun p => match p.1 with
    | .int i => some (.int (-i), p.2)
    | _ => none := by
  refine PE.imp (pe_un un_neg ha) fun pins s σ H Q I h => ?_
  obtain ⟨F, r, e, M, d, M', E, S, hf, q⟩ := h
  obtain ⟨⟨x, M1⟩, h1, hf⟩ := bind_some hf
  refine ⟨F, r, e, M, x, M1, E, S, h1, fun r1 v H1 x1 S1 R1 => ?_⟩
  cases x <;> first | cases hf | skip
  rename_i i
  simp only [Rep] at R1
  exact ⟨i, R1, q r1 _ H1 x1 S1 (by simp [Rep])⟩
end
end Wf
set_option Elab.async false
set_option linter.all false
set_option maxRecDepth 100000
set_option maxHeartbeats 1000000
namespace Wf
open PySem PySem.Spec PyProof.Rows L2
section
variable {X : Cx} {ca : Nat → Addr} {dk : Obj → List (V × V) → Prop} {a b c : Expr} {fa fb fc : EvD} {pos : Pos}

/-- (x,) * k -/
theorem op_one : OpR X (binaryOp .Mult) (fun x y H Q => ∃ l k xs, x = .ref l ∧ y = .int k ∧ SqT X.K H l xs ∧ xs.length = 1 ∧ 2 ≤ k ∧ k ≤ 1000000 ∧ ∀ p, H p = none → Q (.ref p) (upd H p (.tup (List.replicate k.toNat xs).flatten))) := by
  intro pins s σ H x y v u Q I rx ry h
  obtain ⟨l, k, xs, rfl, rfl, hT, h1, k2, kz, q⟩ := h
  cases rx
  obtain ⟨t, rfl⟩ := ry
  obtain ⟨its, rv, ⟨⟨kl, dd, da, sl⟩, ho, hc, n, hd⟩, _⟩ := I.tuple hT
  simp only at hc hd
  subst hc hd
  have il : its.length = 1 := by rw [← rv.length]; exact h1
  have ie : its.toArray.isEmpty = false := by
    cases its with
    | nil => simp at il
    | cons _ _ => rfl
  have is : its.toArray.size = 1 := by simp [il]
  have fl : (List.replicate k.toNat its).flatten.length = k.toNat := by rw [PyProof.Rows.lm_len_rep_flat, il]; omega
  have t0 : (decide (k < -(2 ^ 63)) || decide (k ≥ 2 ^ 63)) = false := by simp; omega
  have t1 : (its.toArray.isEmpty || k == 1) = false := by rw [ie]; simp; omega
  have t2 : (decide (k ≤ 0) || its.toArray.isEmpty) = false := by rw [ie]; simp; omega
  have t4 : Builtin.Tuple.tupleTooMany (((its.toArray.size : Nat) : Int) * k) = false := by
    unfold Builtin.Tuple.tupleTooMany
    rw [sizeLine_eq, is]
    simp; omega
  have run := tuple_mulW l its.toArray n dd sl k t t0 t1 t2 (by rw [is]; omega) t4 (by rw [size_rep, List.size_toArray, fl, sizeLine_eq]; omega)
  refine wpAny_binaryOp_repeat_ref (T := "tuple") (U := "int") (by decide) ⟨_, ho, rfl⟩ (fun s' => typeIs_int s' k t) noFill_tuple_mul F.fills_int_mul F.slot_int_rmul repeat_tuple F.slot_int_index.lookup ?_
  refine call_meets F.slot_int_rmul (typeIs_int s k t) F.entry_int_rmul (F.args_int_rmul_2 _ _) (int_rmul_tuple k t l its.toArray n dd sl) ⟨ho, rfl, ⟨_, ho, rfl⟩, ?_⟩
  refine call_meets F.slot_tuple_mul ⟨_, ho, rfl⟩ F.entry_tuple_mul (F.args_tuple_mul_2 _ _) run ⟨ho, ?_⟩
  rw [size_rep]
  have fx : (List.replicate k.toNat xs).flatten.length ≤ sizeLine := by rw [PyProof.Rows.lm_len_rep_flat, h1, sizeLine_eq]; omega
  exact ⟨.ref s.heap.objs.size, _, I.laid (t' := s.toks) (o := .tup (List.replicate k.toNat xs).flatten) (fun _ _ w => Heap.get?_push_of_some _ w) (Nat.le_refl _) ⟨fx, _, rv.rep k.toNat, IsTup.new _ _⟩, rfl, q _ (I.hok.fresh (Nat.le_refl _))⟩

theorem repTup {F ρ : List Addr} {H : Hp} {xs : List D} {v : V} (R : Rep (gd X ca dk) F ρ H (.tup xs) v) : ∃ a vs, v = .ref a ∧ SqT X.K H a vs ∧ RepL (gd X ca dk) F ρ H xs vs := by simpa only [Rep] using R
/-- a tuple made at p -/
theorem tup_new {F ρ : List Addr} {H : Hp} {M : Mem} (S : StOk (gd X ca dk) F ρ H M) {xs : List D} {vs : List V} (R : RepL (gd X ca dk) F ρ H xs vs) {p : Addr} (hp : H p = none) :
    Ext ρ H ρ (upd H p (.tup vs)) ∧ StOk (gd X ca dk) F ρ (upd H p (.tup vs)) M ∧ Rep (gd X ca dk) F ρ (upd H p (.tup vs)) (.tup xs) (.ref p) := by
  refine ⟨Ext.laid hp, S.laid hp, ?_⟩
  simp only [Rep]
  exact ⟨p, vs, rfl, .inl (.inl upd_same), RepL.ext (Ext.laid hp) R⟩

theorem opR_add (m : Bool) : OpR X (binaryOp .Add) (rD X ca dk (opBin .add m)) := by
  intro pins s σ H x y v u Q I rx ry ⟨F, ρ, M, a, b, d, M', S, R1, R2, hf, q⟩
  unfold opBin at hf
  split at hf
  · cases hf
    simp only [Rep] at R1 R2
    exact op_add pins s σ H x y v u Q I rx ry ⟨_, _, R1, R2, q ρ _ H Ext.refl S (by simp [Rep])⟩
  · dsimp only at hf
    split at hf
    · cases hf
      simp only [Rep] at R1 R2
      exact op_add_str pins s σ H x y v u Q I rx ry ⟨_, _, R1, R2, by assumption, q ρ _ H Ext.refl S (by simp [Rep])⟩
    · cases hf
  · dsimp only at hf
    obtain ⟨p1, vs, e1, s1, l1⟩ := repTup R1
    obtain ⟨p2, ws, e2, s2, l2⟩ := repTup R2
    unfold mkT at hf
    split at hf
    · rename_i hz
      cases hf
      refine op_catA pins s σ H x y v u Q I rx ry ⟨p1, p2, vs, ws, e1, e2, s1, s2, by rw [← l1.length, ← l2.length, ← List.length_append]; exact hz, fun z => ?_, fun _ z => ?_, fun _ _ p hp => ?_⟩
      · subst z
        have := l1.length
        have := List.eq_nil_of_length_eq_zero this
        subst this
        exact q ρ _ H Ext.refl S (by simp only [Rep, List.nil_append]; exact ⟨p2, ws, rfl, s2, l2⟩)
      · subst z
        have := l2.length
        have := List.eq_nil_of_length_eq_zero this
        subst this
        exact q ρ _ H Ext.refl S (by simp only [Rep, List.append_nil]; exact ⟨p1, vs, rfl, s1, l1⟩)
      · obtain ⟨n1, n2, n3⟩ := tup_new S (l1.append l2) hp
        exact q ρ _ _ n1 n2 n3
    · cases hf
  · cases hf
  · dsimp only at hf
    obtain ⟨xs, h1, hf⟩ := bind_some hf
    obtain ⟨ys, h2, hf⟩ := bind_some hf
    obtain ⟨p1, vs, e1, s1, l1⟩ := items_own S h1 R1
    obtain ⟨p2, ws, e2, s2, l2⟩ := items_own S h2 R2
    obtain ⟨z, mk⟩ := made_list S hf (l1.append l2) q
    exact op_cat pins s σ H x y v u Q I rx ry ⟨p1, p2, vs, ws, e1, e2, s1, s2, by rw [← List.length_append]; exact z, mk⟩
theorem opR_sub (m : Bool) : OpR X (binaryOp .Sub) (rD X ca dk (opBin .sub m)) := by
  intro pins s σ H x y v u Q I rx ry ⟨F, ρ, M, a, b, d, M', S, R1, R2, hf, q⟩
  unfold opBin at hf
  split at hf
  · cases hf
    simp only [Rep] at R1 R2
    exact op_sub pins s σ H x y v u Q I rx ry ⟨_, _, R1, R2, q ρ _ H Ext.refl S (by simp [Rep])⟩
  all_goals cases hf
theorem opR_mul (m : Bool) : OpR X (binaryOp .Mult) (rD X ca dk (opBin .mul m)) := by
  intro pins s σ H x y v u Q I rx ry ⟨F, ρ, M, a, b, d, M', S, R1, R2, hf, q⟩
  unfold opBin at hf
  split at hf
  · dsimp only at hf
    split at hf
    · rename_i hc
      cases hf
      simp only [Rep] at R1 R2
      exact op_mul pins s σ H x y v u Q I rx ry ⟨_, _, R1, R2, hc, q ρ _ H Ext.refl S (by simp [Rep])⟩
    · cases hf
  · cases hf
  · cases hf
  · dsimp only at hf
    split at hf
    · rename_i hc
      obtain ⟨hc1, hc2, hc3⟩ := hc
      cases hf
      obtain ⟨p1, vs, e1, s1, l1⟩ := repTup R1
      simp only [Rep] at R2
      refine op_one pins s σ H x y v u Q I rx ry ⟨p1, _, vs, e1, R2, s1, by rw [← l1.length]; exact hc1, hc2, hc3, fun p hp => ?_⟩
      obtain ⟨n1, n2, n3⟩ := tup_new S (l1.rep _) hp
      exact q ρ _ _ n1 n2 n3
    · cases hf
  · cases hf
theorem opR_fdiv (m : Bool) : OpR X (binaryOp .FloorDiv) (rD X ca dk (opBin .fdiv m)) := by
  intro pins s σ H x y v u Q I rx ry ⟨F, ρ, M, a, b, d, M', S, R1, R2, hf, q⟩
  unfold opBin at hf
  split at hf
  · dsimp only at hf
    split at hf
    · rename_i hc
      cases hf
      simp only [Rep] at R1 R2
      exact op_fdiv pins s σ H x y v u Q I rx ry ⟨_, _, R1, R2, hc, q ρ _ H Ext.refl S (by simp [Rep])⟩
    · cases hf
  all_goals cases hf
theorem opR_mod (m : Bool) : OpR X (binaryOp .Mod) (rD X ca dk (opBin .mod m)) := by
  intro pins s σ H x y v u Q I rx ry ⟨F, ρ, M, a, b, d, M', S, R1, R2, hf, q⟩
  unfold opBin at hf
  split at hf
  · dsimp only at hf
    split at hf
    · rename_i hc
      cases hf
      simp only [Rep] at R1 R2
      exact op_mod pins s σ H x y v u Q I rx ry ⟨_, _, R1, R2, hc, q ρ _ H Ext.refl S (by simp [Rep])⟩
    · cases hf
  all_goals cases hf
theorem opR_pow (m : Bool) : OpR X (binaryOp .Pow) (rD X ca dk (opBin .pow m)) := by
  intro pins s σ H x y v u Q I rx ry ⟨F, ρ, M, a, b, d, M', S, R1, R2, hf, q⟩
  unfold opBin at hf
  split at hf
  · dsimp only at hf
    split at hf
    · rename_i hc
      cases hf
      simp only [Rep] at R1 R2
      exact op_pow pins s σ H x y v u Q I rx ry ⟨_, _, R1, R2, hc, q ρ _ H Ext.refl S (by simp [Rep])⟩
    · cases hf
  all_goals cases hf

theorem cmD_some {o : Cm} {x y d : D} {M M' : Mem} (h : cmD o x y M = some (d, M')) : ∃ k, opCmp o x y M = some k ∧ d = .bl k ∧ M' = M := by
  obtain ⟨k, h1, h2⟩ := map_some h
  cases h2
  exact ⟨k, h1, rfl, rfl⟩
theorem opR_eq (hu : X.A.units + 64 < cLine) : OpR X (compareOp .Eq) (rD X ca dk (cmD .eq)) := by
  intro pins s σ H x y v u Q I rx ry ⟨F, ρ, M, a, b, d, M', S, R1, R2, hf, q⟩
  obtain ⟨k, hk, rfl, rfl⟩ := cmD_some hf
  simp only [opCmp] at hk
  split at hk
  · rename_i k' hs
    cases hk
    obtain ⟨x', y', rfl, rfl, rfl⟩ := sEq_some hs
    simp only [Rep] at R1 R2
    subst R1 R2
    refine op_eq pins s σ H _ _ v u Q I rx ry ⟨rfl, ?_⟩
    have e : decide (V.str x' = V.str y') = decide (x' = y') := by rw [decide_eq_decide]; exact ⟨fun z => V.str.inj z, fun z => by rw [z]⟩
    rw [e]
    exact q ρ _ H Ext.refl S (by simp [Rep])
  · obtain ⟨p, h1, hk⟩ := bind_some hk
    obtain ⟨p2, h2, hk⟩ := bind_some hk
    split at hk
    · rename_i hc
      cases hk
      exact op_eqD hu pins s σ H x y v u Q I rx ry ⟨p, p2, pyM_dp S h1 R1, pyM_dp S h2 R2, hc.1, hc.2, q ρ _ H Ext.refl S (by simp [Rep])⟩
    · cases hk
theorem opR_ne (hu : X.A.units + 64 < cLine) : OpR X (compareOp .NotEq) (rD X ca dk (cmD .ne)) := by
  intro pins s σ H x y v u Q I rx ry ⟨F, ρ, M, a, b, d, M', S, R1, R2, hf, q⟩
  obtain ⟨k, hk, rfl, rfl⟩ := cmD_some hf
  simp only [opCmp] at hk
  split at hk
  · rename_i k' hs
    cases hk
    obtain ⟨x', y', rfl, rfl, rfl⟩ := sEq_some hs
    simp only [Rep] at R1 R2
    subst R1 R2
    refine op_ne pins s σ H _ _ v u Q I rx ry ⟨rfl, ?_⟩
    have e : decide (V.str x' = V.str y') = decide (x' = y') := by rw [decide_eq_decide]; exact ⟨fun z => V.str.inj z, fun z => by rw [z]⟩
    rw [e]
    exact q ρ _ H Ext.refl S (by simp [Rep])
  · obtain ⟨p, h1, hk⟩ := bind_some hk
    obtain ⟨p2, h2, hk⟩ := bind_some hk
    split at hk
    · rename_i hc
      cases hk
      exact op_neD hu pins s σ H x y v u Q I rx ry ⟨p, p2, pyM_dp S h1 R1, pyM_dp S h2 R2, hc.1, hc.2, q ρ _ H Ext.refl S (by simp [Rep])⟩
    · cases hk
theorem rep_isNon {F ρ : List Addr} {H : Hp} {d : D} {v : V} (R : Rep (gd X ca dk) F ρ H d v) : decide (v = .non) = isNon d := by
  cases d <;> simp only [Rep] at R
  case non => subst R; rfl
  case bl => subst R; simp [isNon]
  case int => subst R; simp [isNon]
  case str => subst R; simp [isNon]
  case opq => obtain ⟨_, rfl⟩ := R; simp [isNon]
  case tup => obtain ⟨_, _, rfl, _⟩ := R; simp [isNon]
  case lst => obtain ⟨_, _, rfl, _⟩ := R; simp [isNon]
  case scr => obtain ⟨_, _, rfl, _⟩ := R; simp [isNon]
  case sdc => obtain ⟨_, _, rfl, _⟩ := R; simp [isNon]
  case dct => obtain ⟨_, _, _, rfl, _⟩ := R; simp [isNon]
  case ins => obtain ⟨_, _, _, rfl, _⟩ := R; simp [isNon]
  case loc => obtain ⟨_, _, rfl⟩ := R; simp [isNon]
theorem isNon_non {F ρ : List Addr} {H : Hp} {d : D} {v : V} (h : isNon d = true) (R : Rep (gd X ca dk) F ρ H d v) : v = .non := by
  have := rep_isNon R
  rw [h] at this
  exact of_decide_eq_true this
theorem opR_is : OpR X (compareOp .Is) (rD X ca dk (cmD .is)) := by
  intro pins s σ H x y v u Q I rx ry ⟨F, ρ, M, a, b, d, M', S, R1, R2, hf, q⟩
  obtain ⟨k, hk, rfl, rfl⟩ := cmD_some hf
  simp only [opCmp] at hk
  split at hk
  · rename_i hb
    cases hk
    exact op_isN pins s σ H x y v u Q I rx ry ⟨isNon_non hb R2, by rw [rep_isNon R1]; exact q ρ _ H Ext.refl S (by simp [Rep])⟩
  · cases hk
theorem opR_isnt : OpR X (compareOp .IsNot) (rD X ca dk (cmD .isnt)) := by
  intro pins s σ H x y v u Q I rx ry ⟨F, ρ, M, a, b, d, M', S, R1, R2, hf, q⟩
  obtain ⟨k, hk, rfl, rfl⟩ := cmD_some hf
  simp only [opCmp] at hk
  split at hk
  · rename_i hb
    cases hk
    exact op_notN pins s σ H x y v u Q I rx ry ⟨isNon_non hb R2, by rw [rep_isNon R1]; exact q ρ _ H Ext.refl S (by simp [Rep])⟩
  · cases hk
theorem opR_lt : OpR X (compareOp .Lt) (rD X ca dk (cmD .lt)) := by
  intro pins s σ H x y v u Q I rx ry ⟨F, ρ, M, a, b, d, M', S, R1, R2, hf, q⟩
  obtain ⟨k, hk, rfl, rfl⟩ := cmD_some hf
  simp only [opCmp] at hk
  split at hk
  · cases hk
    simp only [Rep] at R1 R2
    exact op_lt pins s σ H x y v u Q I rx ry ⟨_, _, R1, R2, q ρ _ H Ext.refl S (by simp [Rep])⟩
  · cases hk
theorem opR_le : OpR X (compareOp .LtE) (rD X ca dk (cmD .le)) := by
  intro pins s σ H x y v u Q I rx ry ⟨F, ρ, M, a, b, d, M', S, R1, R2, hf, q⟩
  obtain ⟨k, hk, rfl, rfl⟩ := cmD_some hf
  simp only [opCmp] at hk
  split at hk
  · cases hk
    simp only [Rep] at R1 R2
    exact op_le pins s σ H x y v u Q I rx ry ⟨_, _, R1, R2, q ρ _ H Ext.refl S (by simp [Rep])⟩
  · cases hk
theorem opR_gt : OpR X (compareOp .Gt) (rD X ca dk (cmD .gt)) := by
  intro pins s σ H x y v u Q I rx ry ⟨F, ρ, M, a, b, d, M', S, R1, R2, hf, q⟩
  obtain ⟨k, hk, rfl, rfl⟩ := cmD_some hf
  simp only [opCmp] at hk
  split at hk
  · cases hk
    simp only [Rep] at R1 R2
    exact op_gt pins s σ H x y v u Q I rx ry ⟨_, _, R1, R2, q ρ _ H Ext.refl S (by simp [Rep])⟩
  · cases hk
theorem opR_ge : OpR X (compareOp .GtE) (rD X ca dk (cmD .ge)) := by
  intro pins s σ H x y v u Q I rx ry ⟨F, ρ, M, a, b, d, M', S, R1, R2, hf, q⟩
  obtain ⟨k, hk, rfl, rfl⟩ := cmD_some hf
  simp only [opCmp] at hk
  split at hk
  · cases hk
    simp only [Rep] at R1 R2
    exact op_ge pins s σ H x y v u Q I rx ry ⟨_, _, R1, R2, q ρ _ H Ext.refl S (by simp [Rep])⟩
  · cases hk

def notStar : Expr → Bool
  | .Starred _ _ => false
  | _ => true
theorem star_cons {e : Expr} {es : List Expr} {env : Env} (h : notStar e = true) : starEach (e :: es) env = (false, eval e env) :: starEach es env := by
  cases e <;> first | rfl | cases h
theorem star_none {env : Env} {p : Pos} : ∀ {es : List Expr}, es.all notStar = true → (backTo p (starEach es env)).any (·.1) = false
  | [], _ => rfl
  | e :: es, h => by
    simp only [List.all_cons, Bool.and_eq_true] at h
    rw [star_cons h.1]
    show (false || (backTo p (starEach es env)).any (·.1)) = false
    rw [star_none h.2]; rfl
theorem da_nil : DA X ca dk [] fun _ M => some ([], M) := by
  refine PA.imp pa_nil fun pins s σ H Q I h => ?_
  obtain ⟨F, r, e, M, d, M', E, S, hf, q⟩ := h
  cases hf
  exact q r [] H Ext.refl S repL_nil
theorem da_cons {es : List Expr} {fs : EvL} (hn : notStar a = true) (ha : DE X ca dk a fa) (hs : DA X ca dk es fs) :
    DA X ca dk (a :: es) fun e M => (fa e M).bind fun p => (fs e p.2).map fun q => (p.1 :: q.1, q.2) := by
  refine PA.imp (pa_cons ha hs (star_cons hn)) fun pins s σ H Q I h => ?_
  obtain ⟨F, r, e, M, d, M', E, S, hf, q⟩ := h
  obtain ⟨⟨x, M1⟩, h1, hf⟩ := bind_some hf
  obtain ⟨⟨xs, M2⟩, h2, hf⟩ := map_some hf
  cases hf
  refine ⟨F, r, e, M, x, M1, E, S, h1, fun r1 v H1 x1 S1 R1 => ⟨F, r1, e, M1, xs, M2, E.ext x1, S1, h2, fun r2 vs H2 x2 S2 R2 => ?_⟩⟩
  exact q r2 _ H2 (x1.trans x2) S2 (repL_cons (Rep.ext x2 R1) R2)
theorem de_tup {es : List Expr} {fs : EvL} {k : Nat} (h : DA X ca dk es fs) : DE X ca dk (.Tuple es k pos) fun e M => (fs e M).bind fun p => mkT p.1 p.2 := by
  refine PE.imp (pe_tup h) fun pins s σ H Q I h => ?_
  obtain ⟨F, r, e, M, d, M', E, S, hf, q⟩ := h
  obtain ⟨⟨xs, M1⟩, h1, hf⟩ := bind_some hf
  exact ⟨F, r, e, M, xs, M1, E, S, h1, fun r1 vs H1 x1 S1 R1 => made_tup S1 hf R1 fun r' u H' x2 => q r' u H' (x1.trans x2)⟩
theorem de_lst {es : List Expr} {fs : EvL} {m : Bool} (h : DA X ca dk es fs) : DE X ca dk (.List es pos) fun e M => (fs e M).bind fun p => mkL m p.1 p.2 := by
  refine PE.imp (pe_lst h) fun pins s σ H Q I h => ?_
  obtain ⟨F, r, e, M, d, M', E, S, hf, q⟩ := h
  obtain ⟨⟨xs, M1⟩, h1, hf⟩ := bind_some hf
  exact ⟨F, r, e, M, xs, M1, E, S, h1, fun r1 vs H1 x1 S1 R1 => made_list S1 hf R1 fun r' u H' x2 => q r' u H' (x1.trans x2)⟩

def isSlice : Expr → Bool
  | .Slice .. => true
  | _ => false
theorem plainIx {b : Expr} (h : isSlice b = false) : PlainIx b := fun o i => by
  cases b <;> first | rfl | cases h
theorem RepL.atI {F ρ : List Addr} {H : Hp} {g : Gd} {xs : List D} {vs : List V} {i : Int} {d : D} (R : RepL g F ρ H xs vs) (h : L2.atI xs i = some d) : ∃ v, L2.atI vs i = some v ∧ Rep g F ρ H d v := by
  unfold L2.atI at h ⊢
  obtain ⟨j, h1, h2⟩ := bind_some h
  rw [R.length] at h1
  obtain ⟨v, h3, h4⟩ := R.get h2
  exact ⟨v, by rw [h1]; exact h3, h4⟩
/-- subscripts of lists, tuples, dicts -/
def ixD : D → D → Mem → Option (D × Mem) := fun x y M => (opIdx x y M).map fun d => (d, M)
theorem dictS_at {F ρ : List Addr} {H : Hp} {M : Mem} (S : StOk (gd X ca dk) F ρ H M) {d : D} {v : V} {ks : List Str} {xs : List D} (h : dictS M d = some (ks, xs)) (R : Rep (gd X ca dk) F ρ H d v) :
    ∃ a kvs, v = .ref a ∧ H a = some (.dK kvs) ∧ kvs.map (·.1) = ks.map Sum.inr ∧ RepL (gd X ca dk) F ρ H xs (kvs.map (·.2)) := by
  cases d with
  | sdc ks' xs' =>
    cases h
    simp only [Rep] at R
    obtain ⟨a, kvs, e, hs, _, hk, hl⟩ := R
    exact ⟨a, kvs, e, hs, hk, hl⟩
  | loc n =>
    simp only [dictS] at h
    split at h
    · rename_i ks' xs' e
      cases h
      simp only [Rep] at R
      obtain ⟨a, ha, rfl⟩ := R
      obtain ⟨kvs, e1, hk, hl⟩ := S.at_ n a _ ha e
      exact ⟨a, kvs, rfl, e1, hk, hl⟩
    · cases h
  | _ => cases h
theorem look_at {F ρ : List Addr} {H : Hp} {g : Gd} {k : Str} {d : D} : ∀ {ks : List Str} {xs : List D} {kvs : List (Key × V)}, kvs.map (·.1) = ks.map Sum.inr → RepL g F ρ H xs (kvs.map (·.2)) → (ks.zip xs).lookup k = some d →
    ∃ v, valV kvs (Sum.inr k) = some v ∧ Rep g F ρ H d v
  | [], _, _, _, _, h => by simp at h
  | _ :: _, [], _, _, _, h => by simp at h
  | k1 :: ks, x :: xs, kvs, hk, hl, h => by
    cases kvs with
    | nil => simp at hk
    | cons p kvs =>
      simp only [List.map_cons, List.cons.injEq] at hk
      obtain ⟨v, w, e, h1, h2⟩ := repL_cons_iff hl
      simp only [List.map_cons, List.cons.injEq] at e
      obtain ⟨rfl, rfl⟩ := e
      rw [List.zip_cons_cons, List.lookup_cons] at h
      by_cases e : k = k1
      · subst e
        rw [beq_self_eq_true] at h
        cases h
        exact ⟨p.2, valV_pos hk.1, h1⟩
      · have e' : (k == k1) = false := beq_eq_false_iff_ne.mpr e
        rw [e'] at h
        obtain ⟨v2, h3, h4⟩ := look_at hk.2 h2 h
        exact ⟨v2, by rw [valV_neg (fun z => e (Sum.inr.inj (hk.1.symm.trans z)).symm)]; exact h3, h4⟩
theorem ixR_seq (hu : X.A.units + 1 < cLine) : IxR X (rD X ca dk ixD) := by
  intro value slice pins s σ H x y v u Q I rx ry ⟨F, ρ, M, a, b, d, M', S, R1, R2, hf, q⟩ hs
  obtain ⟨d', hg, hd⟩ := map_some hf
  cases hd
  clear hf
  unfold opIdx at hg
  split at hg
  · obtain ⟨p1, vs, e1, s1, l1⟩ := repTup R1
    obtain ⟨w, h1, h2⟩ := l1.atI hg
    simp only [Rep] at R2
    exact ix_tup value slice pins s σ H x y v u Q I rx ry ⟨p1, vs, _, w, e1, R2, s1, h1, q ρ _ H Ext.refl S h2⟩ hs
  · obtain ⟨xs, h0, hg⟩ := bind_some hg
    obtain ⟨p1, vs, e1, s1, l1⟩ := items_at S h0 R1
    obtain ⟨w, h1, h2⟩ := l1.atI hg
    simp only [Rep] at R2
    exact ix_list value slice pins s σ H x y v u Q I rx ry ⟨p1, vs, _, w, e1, R2, s1, h1, q ρ _ H Ext.refl S h2⟩ hs
  · obtain ⟨⟨ks, xs⟩, h0, hg⟩ := bind_some hg
    obtain ⟨p1, kvs, e1, s1, k1, l1⟩ := dictS_at S h0 R1
    obtain ⟨w, h1, h2⟩ := look_at k1 l1 hg
    simp only [Rep] at R2
    subst e1 R2
    obtain rfl : v = Value.ref p1 := rx
    have g0 := DGet.k (k := Sum.inr ‹Str›) s1
    rw [h1] at g0
    exact tail_any (dict_typeIs I g0) PySem.F.slot_dict_getitem.lookup (d_getItem hu I g0 ry fun w' s' I' r' => ⟨w, H, I', r', q ρ _ H Ext.refl S h2⟩) hs
  · cases hg
theorem de_idx (hu : X.A.units + 1 < cLine) (hb : isSlice b = false) (ha : DE X ca dk a fa) (hbv : DE X ca dk b fb) :
    DE X ca dk (.Subscript a b pos) fun e M => (fa e M).bind fun p => (fb e p.2).bind fun q => (opIdx p.1 q.1 q.2).map fun d => (d, q.2) :=
  PE.imp (pe_ix (ixR_seq hu) ha hbv (plainIx hb)) fun _ _ _ _ _ _ h => two_rd h
theorem RepL.cut {F ρ : List Addr} {H : Hp} {g : Gd} {xs : List D} {vs : List V} (lo hi : Option Int) (R : RepL g F ρ H xs vs) : RepL g F ρ H (cutD xs lo hi) (cutV vs lo hi) := by
  unfold cutD cutV
  rw [R.length]
  exact (R.drop _).take _
theorem do_none : DO X ca dk none fun _ M => some (none, M) := by
  refine ⟨fun pins s σ H Q I h => po_none.run pins s σ H Q I ?_⟩
  obtain ⟨F, r, e, M, d, M', E, S, hf, q⟩ := h
  cases hf
  exact q r H Ext.refl S
theorem do_some (ha : DE X ca dk a fa) : DO X ca dk (some a) fun e M => (fa e M).bind fun p => (partI p.1).map fun i => (some i, p.2) := by
  refine ⟨fun pins s σ H Q I h => (po_some ha).run pins s σ H Q I ?_⟩
  obtain ⟨F, r, e, M, d, M', E, S, hf, q⟩ := h
  obtain ⟨⟨x, M1⟩, h1, hf⟩ := bind_some hf
  obtain ⟨i, h2, hf⟩ := map_some hf
  cases hf
  refine ⟨F, r, e, M, x, M1, E, S, h1, fun r1 v H1 x1 S1 R1 => ?_⟩
  cases x <;> simp only [partI] at h2 <;> first | cases h2 | skip
  simp only [Rep] at R1
  exact ⟨_, R1, q r1 H1 x1 S1⟩
/-- slices of tuples and lists, by values -/
theorem slR {m : Bool} : SlR X fun x lo hi H Q => ∃ F ρ M a d M', StOk (gd X ca dk) F ρ H M ∧ Rep (gd X ca dk) F ρ H a x ∧ opSlc m a lo hi M = some (d, M') ∧
    ∀ r' u H', Ext ρ H r' H' → StOk (gd X ca dk) F r' H' M' → Rep (gd X ca dk) F r' H' d u → Q u H' := by
  intro pins s σ H x v vl vu lo hi sl Q I rx hs pl pu ⟨F, ρ, M, a, d, M', S, R, hf, q⟩
  unfold opSlc at hf
  split at hf
  · cases hf
    obtain ⟨p1, vs, e1, s1, l1⟩ := repTup R
    refine sl_tupA pins s σ H x v vl vu lo hi sl Q I rx hs pl pu ⟨p1, vs, e1, s1, fun w => ?_, fun _ p hp => ?_⟩
    · have e : cutD ‹List D› lo hi = ‹List D› := by
        unfold cutD
        rw [l1.length, w.1, w.2]
        simp [← l1.length]
      refine q ρ _ H Ext.refl S ?_
      rw [e]
      exact (show Rep _ _ _ _ (.tup _) _ by simp only [Rep]; exact ⟨p1, vs, rfl, s1, l1⟩)
    · obtain ⟨n1, n2, n3⟩ := tup_new S (l1.cut lo hi) hp
      exact q ρ _ _ n1 n2 n3
  · obtain ⟨xs, h0, hf⟩ := bind_some hf
    obtain ⟨p1, vs, e1, s1, l1⟩ := items_at S h0 R
    obtain ⟨z, mk⟩ := made_list S hf (l1.cut lo hi) q
    exact sl_list pins s σ H x v vl vu lo hi sl Q I rx hs pl pu ⟨p1, vs, e1, s1, mk⟩
theorem de_slc {m : Bool} {lo hi : Option Expr} {fl fh : EvO} {p2 : Pos} (ha : DE X ca dk a fa) (hl : DO X ca dk lo fl) (hh : DO X ca dk hi fh) :
    DE X ca dk (.Subscript a (.Slice lo hi none p2) pos) fun e M => (fa e M).bind fun p => (fl e p.2).bind fun q => (fh e q.2).bind fun z => opSlc m p.1 q.1 z.1 z.2 := by
  refine PE.imp (pe_slice (slR (X := X) (ca := ca) (dk := dk) (m := m)) ha hl hh) fun pins s σ H Q I h => ?_
  obtain ⟨F, r, e, M, d, M', E, S, hf, q⟩ := h
  obtain ⟨⟨x, M1⟩, h1, hf⟩ := bind_some hf
  obtain ⟨⟨l, M2⟩, h2, hf⟩ := bind_some hf
  obtain ⟨⟨u, M3⟩, h3, hf⟩ := bind_some hf
  refine ⟨F, r, e, M, x, M1, E, S, h1, fun r1 v H1 x1 S1 R1 => ⟨F, r1, e, M1, l, M2, E.ext x1, S1, h2, fun r2 H2 x2 S2 => ⟨F, r2, e, M2, u, M3, (E.ext x1).ext x2, S2, h3, fun r3 H3 x3 S3 => ?_⟩⟩⟩
  exact ⟨F, r3, M3, x, d, M', S3, Rep.ext (x2.trans x3) R1, hf, fun r' w H' x4 => q r' w H' (((x1.trans x2).trans x3).trans x4)⟩
end
end Wf
set_option Elab.async false
set_option linter.all false
set_option maxRecDepth 100000
set_option maxHeartbeats 1000000
namespace Wf
open PySem PySem.Spec PyProof.Rows L2
section
variable {X : Cx} {ca : Nat → Addr} {dk : Obj → List (V × V) → Prop} {a b c : Expr} {fa fb fc : EvD} {pos : Pos}

theorem one_rc {f : D → Mem → Option (D × Mem)} {σ : L2.St} {H : Hp} {Q : VK} (h : tD (gd X ca dk) (fun e M => (fa e M).bind fun p => f p.1 p.2) σ H Q) :
    tCB (rC X ca dk f) (tCons (tD (gd X ca dk) fa) tNil) σ H Q := by
  obtain ⟨F, r, e, M, d, M', E, S, hf, q⟩ := h
  obtain ⟨⟨x, M1⟩, h1, hf⟩ := bind_some hf
  exact ⟨F, r, e, M, x, M1, E, S, h1, fun r1 v H1 x1 S1 R1 => ⟨F, r1, M1, x, v, d, M', rfl, S1, R1, hf, fun r' u H' x2 => q r' u H' (x1.trans x2)⟩⟩
theorem de_biB {f : D → Mem → Option (D × Mem)} {id : String} {x : Str} {p : Pos} (hc : CallR X (.builtin id) (rC X ca dk f)) (hg : Gl X x) (hm : X.mg x = none) (hv : bootBuiltins x = some (.builtin id)) (hn : x ≠ "__name__") (hdb : (x == ("__debug__" : Str)) = false)
    (hs : notStar a = true) (ha : DE X ca dk a fa) : DE X ca dk (.Call (.Name x p) [a] [] pos) fun e M => (fa e M).bind fun p => f p.1 p.2 :=
  PE.imp (pe_callB hc hg hm hv (pa_cons ha pa_nil (star_cons hs)) hn hdb (star_cons hs) rfl) fun _ _ _ _ _ _ h => one_rc h
theorem de_biT {f : D → Mem → Option (D × Mem)} {id : String} {x : Str} {p : Pos} (hc : CallR X (.type id) (rC X ca dk f)) (hg : Gl X x) (hm : X.mg x = none) (hv : bootBuiltins x = some (.type id)) (hn : x ≠ "__name__") (hdb : (x == ("__debug__" : Str)) = false)
    (hs : notStar a = true) (ha : DE X ca dk a fa) : DE X ca dk (.Call (.Name x p) [a] [] pos) fun e M => (fa e M).bind fun p => f p.1 p.2 :=
  PE.imp (pe_callTy hc hg hm hv (pa_cons ha pa_nil (star_cons hs)) hn hdb (star_cons hs) rfl) fun _ _ _ _ _ _ h => one_rc h
theorem cr_len : CallR X (.builtin "len") (rC X ca dk (opBi .len)) := by
  intro pins s σ H xs us Q I r ⟨F, ρ, M, a, x, d, M', exs, S, R, hf, q⟩
  subst exs
  unfold opBi at hf
  dsimp only at hf
  split at hf
  · cases hf
    obtain ⟨p1, vs, e1, s1, l1⟩ := repTup R
    refine call_len_seq pins s σ H _ us Q I r ⟨p1, vs, by rw [e1], .inr s1, q ρ _ H Ext.refl S ?_⟩
    rw [← l1.length]; simp [Rep]
  · obtain ⟨ys, h1, hf⟩ := map_some hf
    cases hf
    obtain ⟨p1, vs, e1, s1, l1⟩ := items_at S h1 R
    refine call_len_seq pins s σ H _ us Q I r ⟨p1, vs, by rw [e1], .inl s1, q ρ _ H Ext.refl S ?_⟩
    rw [← l1.length]; simp [Rep]
theorem cr_sumD (hc : X.calm = true) : CallR X (.builtin "sum") (rC X ca dk (opBi .sum)) := by
  intro pins s σ H xs us Q I r ⟨F, ρ, M, a, x, d, M', exs, S, R, hf, q⟩
  subst exs
  simp only [opBi] at hf
  obtain ⟨ys, h1, hf⟩ := bind_some hf
  obtain ⟨ns, h2, hf⟩ := map_some hf
  cases hf
  obtain ⟨p1, vs, e1, s1, l1⟩ := items_at S h1 R
  rw [intsOf_eq h2] at l1
  rw [l1.ints] at s1
  exact cr_sum hc pins s σ H _ us Q I r ⟨p1, ns, by rw [e1], s1, q ρ _ H Ext.refl S (by simp [Rep])⟩
theorem maxI_spec : ∀ {ns : List Int} {m : Int}, maxI ns = some m → m ∈ ns ∧ ∀ y, y ∈ ns → y ≤ m
  | [], _, h => by cases h
  | i :: is, m, h => by
    simp only [maxI] at h
    split at h
    · rename_i e
      cases h
      have : is = [] := by
        cases is with
        | nil => rfl
        | cons j js =>
          simp only [maxI] at e
          split at e <;> cases e
      subst this
      simp
    · rename_i j e
      obtain ⟨h1, h2⟩ := maxI_spec e
      cases h
      split
      · exact ⟨List.mem_cons_of_mem _ h1, fun y hy => by
          rcases List.mem_cons.mp hy with rfl | hy
          · assumption
          · exact h2 y hy⟩
      · exact ⟨List.mem_cons_self, fun y hy => by
          rcases List.mem_cons.mp hy with rfl | hy
          · exact Int.le_refl _
          · have := h2 y hy; omega⟩
theorem minI_spec : ∀ {ns : List Int} {m : Int}, minI ns = some m → m ∈ ns ∧ ∀ y, y ∈ ns → m ≤ y
  | [], _, h => by cases h
  | i :: is, m, h => by
    simp only [minI] at h
    split at h
    · rename_i e
      cases h
      have : is = [] := by
        cases is with
        | nil => rfl
        | cons j js =>
          simp only [minI] at e
          split at e <;> cases e
      subst this
      simp
    · rename_i j e
      obtain ⟨h1, h2⟩ := minI_spec e
      cases h
      split
      · exact ⟨List.mem_cons_of_mem _ h1, fun y hy => by
          rcases List.mem_cons.mp hy with rfl | hy
          · assumption
          · exact h2 y hy⟩
      · exact ⟨List.mem_cons_self, fun y hy => by
          rcases List.mem_cons.mp hy with rfl | hy
          · exact Int.le_refl _
          · have := h2 y hy; omega⟩
theorem cr_maxD (hc : X.calm = true) : CallR X (.builtin "max") (rC X ca dk (opBi .max)) := by
  intro pins s σ H xs us Q I r ⟨F, ρ, M, a, x, d, M', exs, S, R, hf, q⟩
  subst exs
  simp only [opBi] at hf
  obtain ⟨ys, h1, hf⟩ := bind_some hf
  obtain ⟨ns, h2, hf⟩ := bind_some hf
  obtain ⟨m, h3, hf⟩ := map_some hf
  cases hf
  obtain ⟨p1, vs, e1, s1, l1⟩ := items_at S h1 R
  rw [intsOf_eq h2] at l1
  rw [l1.ints] at s1
  obtain ⟨m1, m2⟩ := maxI_spec h3
  exact cr_max hc pins s σ H _ us Q I r ⟨p1, ns, by rw [e1], s1, List.length_pos_of_mem m1, fun z z1 z2 => by
    have e : z = m := Int.le_antisymm (m2 z z1) (z2 m m1)
    rw [e]
    exact q ρ _ H Ext.refl S (by simp [Rep])⟩
theorem cr_minD (hc : X.calm = true) : CallR X (.builtin "min") (rC X ca dk (opBi .min)) := by
  intro pins s σ H xs us Q I r ⟨F, ρ, M, a, x, d, M', exs, S, R, hf, q⟩
  subst exs
  simp only [opBi] at hf
  obtain ⟨ys, h1, hf⟩ := bind_some hf
  obtain ⟨ns, h2, hf⟩ := bind_some hf
  obtain ⟨m, h3, hf⟩ := map_some hf
  cases hf
  obtain ⟨p1, vs, e1, s1, l1⟩ := items_at S h1 R
  rw [intsOf_eq h2] at l1
  rw [l1.ints] at s1
  obtain ⟨m1, m2⟩ := minI_spec h3
  exact cr_min hc pins s σ H _ us Q I r ⟨p1, ns, by rw [e1], s1, List.length_pos_of_mem m1, fun z z1 z2 => by
    have e : z = m := Int.le_antisymm (z2 m m1) (m2 z z1)
    rw [e]
    exact q ρ _ H Ext.refl S (by simp [Rep])⟩
theorem cr_allD (hc : X.calm = true) : CallR X (.builtin "all") (rC X ca dk (opBi .all)) := by
  intro pins s σ H xs us Q I r ⟨F, ρ, M, a, x, d, M', exs, S, R, hf, q⟩
  subst exs
  simp only [opBi] at hf
  obtain ⟨ys, h1, hf⟩ := bind_some hf
  obtain ⟨ns, h2, hf⟩ := map_some hf
  cases hf
  obtain ⟨p1, vs, e1, s1, l1⟩ := items_at S h1 R
  rw [blsOf_eq h2] at l1
  rw [l1.bls] at s1
  exact cr_all hc pins s σ H _ us Q I r ⟨p1, ns, by rw [e1], s1, q ρ _ H Ext.refl S (by simp [Rep])⟩
theorem cr_anyD (hc : X.calm = true) : CallR X (.builtin "any") (rC X ca dk (opBi .any)) := by
  intro pins s σ H xs us Q I r ⟨F, ρ, M, a, x, d, M', exs, S, R, hf, q⟩
  subst exs
  simp only [opBi] at hf
  obtain ⟨ys, h1, hf⟩ := bind_some hf
  obtain ⟨ns, h2, hf⟩ := map_some hf
  cases hf
  obtain ⟨p1, vs, e1, s1, l1⟩ := items_at S h1 R
  rw [blsOf_eq h2] at l1
  rw [l1.bls] at s1
  exact cr_any hc pins s σ H _ us Q I r ⟨p1, ns, by rw [e1], s1, q ρ _ H Ext.refl S (by simp [Rep])⟩
theorem cr_tuple : CallR X (.type "tuple") (rC X ca dk (opBi .tuple)) := by
  intro pins s σ H xs us Q I r ⟨F, ρ, M, a, x, d, M', exs, S, R, hf, q⟩
  subst exs
  unfold opBi at hf
  dsimp only at hf
  split at hf
  · cases hf
    obtain ⟨p1, vs, e1, s1, l1⟩ := repTup R
    exact call_tuple_of pins s σ H _ us Q I r ⟨p1, vs, by rw [e1], .inr ⟨s1, q ρ _ H Ext.refl S (by rw [← e1]; exact R)⟩⟩
  · obtain ⟨ys, h1, hf⟩ := map_some hf
    cases hf
    obtain ⟨p1, vs, e1, s1, l1⟩ := items_at S h1 R
    refine call_tuple_of pins s σ H _ us Q I r ⟨p1, vs, by rw [e1], .inl ⟨s1, fun p hp => ?_⟩⟩
    obtain ⟨n1, n2, n3⟩ := tup_new S l1 hp
    exact q ρ _ _ n1 n2 n3
theorem cr_list {m : Bool} : CallR X (.type "list") (rC X ca dk (opBi (.list m))) := by
  intro pins s σ H xs us Q I r ⟨F, ρ, M, a, x, d, M', exs, S, R, hf, q⟩
  subst exs
  unfold opBi at hf
  dsimp only at hf
  split at hf
  · obtain ⟨p1, vs, e1, s1, l1⟩ := repTup R
    obtain ⟨z, mk⟩ := made_list S hf l1 q
    exact call_list_of pins s σ H _ us Q I r ⟨p1, vs, by rw [e1], .inr s1, mk⟩
  · obtain ⟨ys, h1, hf⟩ := bind_some hf
    obtain ⟨p1, vs, e1, s1, l1⟩ := items_at S h1 R
    obtain ⟨z, mk⟩ := made_list S hf l1 q
    exact call_list_of pins s σ H _ us Q I r ⟨p1, vs, by rw [e1], .inl s1, mk⟩
theorem cr_int : CallR X (.type "int") (rC X ca dk (opBi .int)) := by
  intro pins s σ H xs us Q I r ⟨F, ρ, M, a, x, d, M', exs, S, R, hf, q⟩
  subst exs
  unfold opBi at hf
  dsimp only at hf
  split at hf
  · cases hf
    simp only [Rep] at R
    exact call_int1 pins s σ H _ us Q I r (.inl ⟨_, by rw [R], q ρ _ H Ext.refl S (by simp [Rep])⟩)
  · cases hf
    simp only [Rep] at R
    exact call_int1 pins s σ H _ us Q I r (.inr ⟨_, by rw [R], q ρ _ H Ext.refl S (by simp [Rep])⟩)
  · cases hf
theorem cr_abs : CallR X (.builtin "abs") (rC X ca dk (opBi .abs)) := by
  intro pins s σ H xs us Q I r ⟨F, ρ, M, a, x, d, M', exs, S, R, hf, q⟩
  subst exs
  unfold opBi at hf
  dsimp only at hf
  split at hf
  · cases hf
    simp only [Rep] at R
    exact call_abs pins s σ H _ us Q I r ⟨_, by rw [R], q ρ _ H Ext.refl S (by simp [Rep])⟩
  · cases hf
theorem cr_str : CallR X (.type "str") (rC X ca dk (opBi .str)) := by
  intro pins s σ H xs us Q I r ⟨F, ρ, M, a, x, d, M', exs, S, R, hf, q⟩
  subst exs
  unfold opBi at hf
  dsimp only at hf
  split at hf
  · split at hf
    · rename_i hz
      cases hf
      simp only [Rep] at R
      exact call_str_int pins s σ H _ us Q I r ⟨_, by rw [R], hz, q ρ _ H Ext.refl S (by simp [Rep])⟩
    · cases hf
  · cases hf
/-- repr of data -/
theorem cr_reprP (hg : X.A.guards = some []) (hu : X.A.units + 64 < cLine) : CallR X (.builtin "repr") (fun xs H Q => ∃ x p, xs = [x] ∧ Dp X.K H x p ∧ p.showable = true ∧ p.shown.length ≤ sizeLine ∧ p.depth ≤ 60 ∧ p.hasDict = false ∧ Q (.str p.shown) H) := by
  intro pins s σ H xs us Q I r ⟨x, p, exs, dp, h1, h2, h3, h4, q⟩
  subst exs
  obtain ⟨u, rfl, rx⟩ := vals1 r
  have fin : ∀ {h' : Heap} {t : Tok} {tk : Nat}, (∀ b o, s.heap.get? b = some o → h'.get? b = some o) → EP X pins σ Q (.str p.shown t) { s with heap := h', toks := tk } := fun k => ⟨.str p.shown, H, I.kept k, ⟨_, rfl⟩, q⟩
  cases dp with
  | non => cases rx; exact PySem.P.repr_of_none (fin fun _ _ w => w)
  | bl b => cases rx; exact PySem.P.repr_of_bool (fin fun _ _ w => w)
  | int i =>
    obtain ⟨t, rfl⟩ := rx
    exact PySem.P.repr_of_int (by simpa [PyData.showable] using h1) (fin fun _ _ w => w)
  | str z =>
    obtain ⟨t, rfl⟩ := rx
    exact PySem.P.repr_of_str (fin fun _ _ w => w) h2
  | lst h5 h6 =>
    cases rx
    obtain ⟨as, rd⟩ := Dp.reads I _ _ _ (.lst h5 h6) rfl
    exact repr_of_reads' rd h1 (PyData.noDict_hsm h4) hg (by omega) (fun _ _ w => w) (fun h' u tk k => fin k) h2
  | tup h5 h6 =>
    cases rx
    obtain ⟨as, rd⟩ := Dp.reads I _ _ _ (.tup h5 h6) rfl
    exact repr_of_reads' rd h1 (PyData.noDict_hsm h4) hg (by omega) (fun _ _ w => w) (fun h' u tk k => fin k) h2
theorem cr_repr (hg : X.A.guards = some []) (hu : X.A.units + 64 < cLine) : CallR X (.builtin "repr") (rC X ca dk (opBi .repr)) := by
  intro pins s σ H xs us Q I r ⟨F, ρ, M, a, x, d, M', exs, S, R, hf, q⟩
  subst exs
  simp only [opBi] at hf
  obtain ⟨p, h1, hf⟩ := bind_some hf
  split at hf
  · rename_i hc
    cases hf
    exact cr_reprP hg hu pins s σ H _ us Q I r ⟨x, p, rfl, pyM_dp S h1 R, hc.1, hc.2.1, hc.2.2.1, hc.2.2.2, q ρ _ H Ext.refl S (by simp [Rep])⟩
  · cases hf

def isSuper : Expr → Bool
  | .Call _ _ _ _ => true
  | _ => false
theorem base_of {o : Expr} {f : Str} {env : Env} (h : isSuper o = false) : attributeBase o f env (eval o env) = eval o env := by
  cases o <;> first | rfl | cases h
theorem few_of {e : Expr} {env : Env} {p : Pos} (hs : notStar e = true) : ((backTo p (starEach [e] env)).all (fun x => !x.1) && (backToKw p (keywordEach [] env)).all (fun x => x.1.isSome)
      && decide (([e] : List Expr).length + ([] : List Keyword).length + (if ([] : List Keyword).isEmpty then 0 else 1) < 30)) = true := by
  rw [star_cons hs]; rfl
theorem locLst_at {F ρ : List Addr} {H : Hp} {M : Mem} (S : StOk (gd X ca dk) F ρ H M) {d : D} {v : V} {z : Nat × List D} (h : locLst M d = some z) (R : Rep (gd X ca dk) F ρ H d v) :
    ∃ a vs, v = .ref a ∧ ρ[z.1]? = some a ∧ H a = some (.lst vs) ∧ RepL (gd X ca dk) F ρ H z.2 vs := by
  cases d with
  | loc n =>
    simp only [locLst] at h
    split at h
    · rename_i xs e
      cases h
      simp only [Rep] at R
      obtain ⟨a, ha, rfl⟩ := R
      obtain ⟨vs, e1, hl⟩ := S.at_ n a _ ha e
      exact ⟨a, vs, rfl, ha, e1, hl⟩
    · cases h
  | _ => cases h
/-- a mutable list gets other items -/
theorem lst_wr {F ρ : List Addr} {H : Hp} {M : Mem} (S : StOk (gd X ca dk) F ρ H M) {n : Nat} {p : Addr} {vs ws : List V} {ys : List D} (hn : ρ[n]? = some p) (h : H p = some (.lst vs)) (R : RepL (gd X ca dk) F ρ H ys ws) :
    Ext ρ H ρ (upd H p (.lst ws)) ∧ StOk (gd X ca dk) F ρ (upd H p (.lst ws)) (M.set n (.lst ys)) := by
  have x : Ext ρ H ρ (upd H p (.lst ws)) := Ext.wr h (List.mem_of_getElem? hn) trivial
  exact ⟨x, S.wr hn h trivial ⟨ws, upd_same, RepL.ext x R⟩⟩
theorem de_app {apos : Pos} (ho : isSuper a = false) (hs : notStar b = true) (hl : (apos.endLine == pos.line) = true) (ha : DE X ca dk a fa) (hb : DE X ca dk b fb) :
    DE X ca dk (.Call (.Attribute a "append" apos) [b] [] pos) fun e M => (fa e M).bind fun p => (locLst p.2 p.1).bind fun _ => (fb e p.2).bind fun q => (locLst q.2 p.1).bind fun z =>
      if z.2.length < sizeLine then some (.non, q.2.set z.1 (.lst (z.2 ++ [q.1]))) else none := by
  refine PE.imp (pe_bm PySem.F.plainAttrs_list PySem.F.slot_list_append PySem.F.type_list_append mt_append ha (pa_cons hb pa_nil (star_cons hs)) (base_of ho) (few_of hs) hl (star_cons hs) rfl) fun pins s σ H Q I h => ?_
  obtain ⟨F, r, e, M, d, M', E, S, hf, q⟩ := h
  obtain ⟨⟨x, M1⟩, h1, hf⟩ := bind_some hf
  obtain ⟨z0, h2, hf⟩ := bind_some hf
  obtain ⟨⟨y, M2⟩, h3, hf⟩ := bind_some hf
  obtain ⟨z, h4, hf⟩ := bind_some hf
  split at hf
  · rename_i hz
    cases hf
    refine ⟨F, r, e, M, x, M1, E, S, h1, fun r1 v H1 x1 S1 R1 => ?_⟩
    obtain ⟨p0, vs0, rfl, k1, k2, k3⟩ := locLst_at S1 h2 R1
    refine ⟨.inl ⟨rfl, _, .inl (.inl k2)⟩, F, r1, e, M1, y, M2, E.ext x1, S1, h3, fun r2 w H2 x2 S2 R2 => ?_⟩
    obtain ⟨p1, vs1, e1, j1, j2, j3⟩ := locLst_at S2 h4 (Rep.ext x2 R1)
    cases e1
    obtain ⟨n1, n2⟩ := lst_wr S2 j1 j2 (j3.append (repL_cons R2 repL_nil))
    exact ⟨p0, vs1, w, rfl, rfl, j2, by rw [← j3.length]; exact hz, q r2 _ _ ((x1.trans x2).trans n1) n2 (by simp [Rep])⟩
  · cases hf
theorem de_extd {apos : Pos} (ho : isSuper a = false) (hs : notStar b = true) (hl : (apos.endLine == pos.line) = true) (ha : DE X ca dk a fa) (hb : DE X ca dk b fb) :
    DE X ca dk (.Call (.Attribute a "extend" apos) [b] [] pos) fun e M => (fa e M).bind fun p => (locLst p.2 p.1).bind fun _ => (fb e p.2).bind fun q => (locLst q.2 p.1).bind fun z => (itemsO q.2 q.1).bind fun ys =>
      if z.2.length + ys.length ≤ sizeLine then some (.non, q.2.set z.1 (.lst (z.2 ++ ys))) else none := by
  refine PE.imp (pe_bm PySem.F.plainAttrs_list PySem.F.slot_list_extend PySem.F.type_list_extend mt_extend ha (pa_cons hb pa_nil (star_cons hs)) (base_of ho) (few_of hs) hl (star_cons hs) rfl) fun pins s σ H Q I h => ?_
  obtain ⟨F, r, e, M, d, M', E, S, hf, q⟩ := h
  obtain ⟨⟨x, M1⟩, h1, hf⟩ := bind_some hf
  obtain ⟨z0, h2, hf⟩ := bind_some hf
  obtain ⟨⟨y, M2⟩, h3, hf⟩ := bind_some hf
  obtain ⟨z, h4, hf⟩ := bind_some hf
  obtain ⟨ys, h5, hf⟩ := bind_some hf
  split at hf
  · rename_i hz
    cases hf
    refine ⟨F, r, e, M, x, M1, E, S, h1, fun r1 v H1 x1 S1 R1 => ?_⟩
    obtain ⟨p0, vs0, rfl, k1, k2, k3⟩ := locLst_at S1 h2 R1
    refine ⟨.inl ⟨rfl, _, .inl (.inl k2)⟩, F, r1, e, M1, y, M2, E.ext x1, S1, h3, fun r2 w H2 x2 S2 R2 => ?_⟩
    obtain ⟨p1, vs1, e1, j1, j2, j3⟩ := locLst_at S2 h4 (Rep.ext x2 R1)
    cases e1
    obtain ⟨p2, ws, rfl, j4, j5⟩ := items_own S2 h5 R2
    obtain ⟨n1, n2⟩ := lst_wr S2 j1 j2 (j3.append j5)
    exact ⟨p0, p2, vs1, ws, rfl, rfl, j2, j4, by rw [← j3.length, ← j5.length]; exact hz, q r2 _ _ ((x1.trans x2).trans n1) n2 (by simp [Rep])⟩
  · cases hf

/-- the pairs of a display with written texts as keys -/
structure DPs (X : Cx) (ca : Nat → Addr) (dk : Obj → List (V × V) → Prop) (pos : Pos) (keys : List (Option Expr)) (values : List Expr) (ks : List Str) (f : EvL) : Prop where
  ex : ∃ trs, PPs X pos keys values trs ∧ ∀ (σ : L2.St) (H : Hp) (Q : List (V × V) → Hp → Prop) (F r : List Addr) (e : Envi) (M : Mem) (ds : List D) (M' : Mem),
    EnOk (gd X ca dk) F r H e σ → StOk (gd X ca dk) F r H M → f e M = some (ds, M') →
    (∀ r' vs H', Ext r H r' H' → StOk (gd X ca dk) F r' H' M' → RepL (gd X ca dk) F r' H' ds vs → Q ((ks.map V.str).zip vs) H') → tPairs trs σ H Q
theorem dps_nil : DPs X ca dk pos [] [] [] fun _ M => some ([], M) :=
  ⟨[], pps_nil, fun σ H Q F r e M ds M' E S hf q => by cases hf; exact q r [] H Ext.refl S repL_nil⟩
theorem dps_cons {k : Str} {j : Nat} {kp : Pos} {keys : List (Option Expr)} {values : List Expr} {ks : List Str} {f : EvL} (hb : DE X ca dk b fb) (h : DPs X ca dk pos keys values ks f) :
    DPs X ca dk pos (some (.Constant (.str k) j kp) :: keys) (b :: values) (k :: ks) fun e M => (fb e M).bind fun p => (f e p.2).map fun q => (p.1 :: q.1, q.2) := by
  obtain ⟨trs, h1, h2⟩ := h.ex
  refine ⟨_ :: trs, pps_cons pe_str hb h1, fun σ H Q F r e M ds M' E S hf q => ?_⟩
  obtain ⟨⟨x, M1⟩, g1, hf⟩ := bind_some hf
  obtain ⟨⟨xs, M2⟩, g2, hf⟩ := map_some hf
  cases hf
  refine ⟨F, r, e, M, x, M1, E, S, g1, fun r1 v H1 x1 S1 R1 => ?_⟩
  refine h2 σ H1 _ F r1 e M1 xs M2 (E.ext x1) S1 g2 fun r2 vs H2 x2 S2 R2 => ?_
  exact q r2 (v :: vs) H2 (x1.trans x2) S2 (repL_cons (Rep.ext x2 R1) R2)
theorem merge_new : ∀ {more acc : List (Key × V)}, (acc.map (·.1) ++ more.map (·.1)).Nodup → mergeK acc more = acc ++ more
  | [], acc, _ => by simp [mergeK]
  | p :: more, acc, h => by
    have e : valV acc p.1 = none := by
      unfold valV
      rw [Option.map_eq_none_iff, List.find?_eq_none]
      intro y hy hz
      have hz := of_decide_eq_true hz
      rw [List.nodup_append] at h
      exact h.2.2 y.1 (List.mem_map_of_mem hy) p.1 (by simp) hz
    show mergeK (putK acc p.1 p.2) more = _
    rw [putK_new p.2 e]
    have := merge_new (more := more) (acc := acc ++ [(p.1, p.2)]) (by simpa using h)
    rw [this]
    simp
theorem de_dis {keys : List (Option Expr)} {values : List Expr} {ks : List Str} {f : EvL} {m : Bool} (h : DPs X ca dk pos keys values ks f) (hall : keys.all (·.isSome) = true) (hl : keys.length = values.length) (h0 : keys ≠ [])
    (h15 : keys.length ≤ 15) (hk : ks.length = keys.length) (hn : ks.Nodup) (hlen : ∀ e M ds M', f e M = some (ds, M') → ds.length = ks.length) :
    DE X ca dk (.Dict keys values pos) fun e M => (f e M).bind fun p => if m then some (.loc p.2.length, p.2 ++ [.sdc ks p.1]) else some (.sdc ks p.1, p.2) := by
  obtain ⟨trs, h1, h2⟩ := h.ex
  refine PE.imp (pe_disp h1 hall hl h0 h15) fun pins s σ H Q I h => ?_
  obtain ⟨F, r, e, M, d, M', E, S, hf, q⟩ := h
  obtain ⟨⟨xs, M1⟩, g1, hf⟩ := bind_some hf
  intro p hp
  have hpF : p ∉ F := fun z => S.liveF p z hp
  refine h2 σ _ _ (p :: F) r e M xs M1 (E.mv (.foreign hp)) (S.foreign hp) g1 fun r1 vs H1 x1 S1 R1 => ?_
  have pr : p ∉ r1 := fun z => S1.off p z List.mem_cons_self
  have at1 : H1 p = some (.dK []) := x1.atP upd_same (fun z => (S.offNew hp).2 z)
  have lv : vs.length = ks.length := by rw [← R1.length]; exact hlen _ _ _ _ g1
  have k1 : ((ks.map (Sum.inr : Str → Key)).zip vs).map (·.1) = ks.map Sum.inr := by
    rw [List.map_fst_zip]; simp [lv]
  have k2 : ((ks.map (Sum.inr : Str → Key)).zip vs).map (·.2) = vs := by
    rw [List.map_snd_zip]; simp [lv]
  have e1 : mergeK [] ((ks.map (Sum.inr : Str → Key)).zip vs) = (ks.map Sum.inr).zip vs := by
    rw [merge_new, List.nil_append]
    rw [List.map_nil, List.nil_append, k1]
    exact hn.map (f := Sum.inr) fun a b hab => fun z => hab (Sum.inr.inj z)
  refine ⟨at1, (ks.map Sum.inr).zip vs, ?_, by simp [lv]; omega, ?_⟩
  · rw [List.zip_map_left, List.zip_map_left, List.map_map]; rfl
  · rw [e1]
    have S2 : StOk (gd X ca dk) (p :: F) r1 (upd H1 p (.dK ((ks.map Sum.inr).zip vs))) M1 := S1.poke at1 trivial List.mem_cons_self
    have R2 : RepL (gd X ca dk) (p :: F) r1 (upd H1 p (.dK ((ks.map Sum.inr).zip vs))) xs vs := RepL.mv (.poke at1 trivial List.mem_cons_self) R1
    have x2 : Ext r H r1 (upd H1 p (.dK ((ks.map Sum.inr).zip vs))) := (x1.over hp).pokeO hp
    cases m with
    | false =>
      rw [if_neg Bool.false_ne_true] at hf
      cases hf
      refine q r1 _ _ x2 S2.free ?_
      simp only [Rep]
      exact ⟨p, _, rfl, upd_same, ⟨hpF, pr⟩, k1, by rw [k2]; exact RepL.mv .free R2⟩
    | true =>
      rw [if_pos rfl] at hf
      cases hf
      refine q (r1 ++ [p]) _ _ (x2.adopt hp) (S2.adopt hpF ⟨_, upd_same, k1, by rw [k2]; exact RepL.mv .adopt R2⟩) ?_
      simp only [Rep]
      exact ⟨p, by rw [← S1.len, List.getElem?_append_right (Nat.le_refl _)]; simp, rfl⟩
end
end Wf
set_option Elab.async false
set_option linter.all false
set_option maxRecDepth 100000
set_option maxHeartbeats 1000000
namespace Wf
open PySem PySem.Spec PyProof.Rows L2
section
variable {F r F' r' F2 r2 : List Addr} {H H' H2 : Hp}
theorem Ext.mv (x : Ext r H r' H') : Mv F r H F r' H' := by
  obtain ⟨t, e, ht⟩ := x.new
  refine ⟨fun n a h => by rw [e, List.getElem?_append_left (List.getElem?_eq_some_iff.mp h).1]; exact h, fun a ha h => Off.ext x h ha, fun a o h of => x.keep a o h of.2, x.tups, x.frzs⟩
theorem Mv.trans (x : Mv F r H F' r' H') (y : Mv F' r' H' F2 r2 H2) (l : ∀ a, H a ≠ none → H' a ≠ none) : Mv F r H F2 r2 H2 :=
  ⟨fun n a h => y.locs n a (x.locs n a h), fun a ha h => y.off a (l a ha) (x.off a ha h), fun a o h of => y.keep a o (x.keep a o h of) (x.off a (by rw [h]; simp) of), fun b xs h => y.tups b xs (x.tups b xs h), fun b o u h => y.frzs b o u (x.frzs b o u h)⟩
theorem Mv.refl : Mv F r H F r H := ⟨fun _ _ h => h, fun _ _ h => h, fun _ _ h _ => h, fun _ _ h => h, fun _ _ _ h => h⟩
end
mutual
def slotsT : Wf.Tg → List Nat
  | .nm i => [i]
  | .tp ts => slotsTs ts
def slotsTs : List Wf.Tg → List Nat
  | [] => []
  | t :: ts => slotsT t ++ slotsTs ts
end
theorem wipe_in {σ : L2.St} {i : Nat} : ∀ {vs : List Nat}, i ∈ vs → (L2.wipe σ vs)[i]? = if i < σ.length then some none else none
  | v :: vs, h => by
    show ((L2.wipe σ vs).set v none)[i]? = _
    by_cases e : v = i
    · subst e
      rw [List.getElem?_set, if_pos rfl, L2.wipe_length]
    · rw [List.getElem?_set_ne e]
      rcases List.mem_cons.mp h with h | h
      · exact absurd h.symm e
      · exact wipe_in h
theorem wipe_off {σ : L2.St} {i : Nat} : ∀ {vs : List Nat}, i ∉ vs → (L2.wipe σ vs)[i]? = σ[i]?
  | [], _ => rfl
  | v :: vs, h => by
    show ((L2.wipe σ vs).set v none)[i]? = _
    rw [List.getElem?_set_ne fun e => h (by rw [e]; exact List.mem_cons_self)]
    exact wipe_off fun z => h (List.mem_cons_of_mem _ z)
theorem wipe_set {σ : L2.St} {i : Nat} {x : Option V} {vs : List Nat} (h : i ∈ vs) : L2.wipe (σ.set i x) vs = L2.wipe σ vs := by
  apply List.ext_getElem?
  intro j
  by_cases hj : j ∈ vs
  · rw [wipe_in hj, wipe_in hj, List.length_set]
  · rw [wipe_off hj, wipe_off hj, List.getElem?_set_ne fun (e : i = j) => hj (by rw [← e]; exact h)]
theorem wipe_wipe {σ : L2.St} {vs : List Nat} : L2.wipe (L2.wipe σ vs) vs = L2.wipe σ vs := by
  apply List.ext_getElem?
  intro j
  by_cases hj : j ∈ vs
  · rw [wipe_in hj, wipe_in hj, L2.wipe_length]
  · rw [wipe_off hj, wipe_off hj]
section
variable (g : Gd)
/-- a target by what it binds; all slots but its own are as they were -/
def tG (t : Wf.Tg) : TG := fun v σ H Q => ∃ F r e M d e', EnOk g F r H e σ ∧ StOk g F r H M ∧ Rep g F r H d v ∧ bindT t d e = some e' ∧ ∀ σ', EnOk g F r H e' σ' → (∀ vs, (∀ i ∈ slotsT t, i ∈ vs) → L2.wipe σ' vs = L2.wipe σ vs) → Q σ' H
def tGs (t : List Wf.Tg) : TGs := fun v σ H Q => ∃ F r e M d e', EnOk g F r H e σ ∧ StOk g F r H M ∧ RepL g F r H d v ∧ bindTs t d e = some e' ∧ ∀ σ', EnOk g F r H e' σ' → (∀ vs, (∀ i ∈ slotsTs t, i ∈ vs) → L2.wipe σ' vs = L2.wipe σ vs) → Q σ' H
/-- an iterator gives a source's items, wherever the heap goes -/
def Wk (J : L2.It) (s : Src) (F0 r0 : List Addr) (H0 : Hp) : Prop := ∀ F r H M, Mv F0 r0 H0 F r H → StOk g F r H M → ∀ i x, s.at M i = some x →
  (x = none → J.stop i H) ∧ ∀ d, x = some d → J.go i H ∧ ∀ v H', J.yld i H v H' → Ext r H r H' ∧ StOk g F r H' M ∧ Rep g F r H' d v
abbrev EvI := Envi → Mem → Option (Src × Mem)
def tI (f : EvI) : TI := fun σ H R => ∃ F r e M s M', EnOk g F r H e σ ∧ StOk g F r H M ∧ f e M = some (s, M') ∧ ∀ r' J H', Ext r H r' H' → StOk g F r' H' M' → Wk g J s F r' H' → R J H'
abbrev EvS := Envi → Mem → Rr
def fin (D : Ends) (F r : List Addr) (σ : L2.St) (H : Hp) : Fl → Prop
  | .nx => D.nx σ H
  | .rt d => ∀ v, Rep g F r H d v → D.rt v H
  | .bk => D.bk σ H
  | .ct => D.ct σ H
def tS (f : EvS) : TS := fun D σ H => ∃ F r e M fl e' M', EnOk g F r H e σ ∧ StOk g F r H M ∧ f e M = some (fl, e', M') ∧
  ∀ r' σ' H', Ext r H r' H' → StOk g F r' H' M' → EnOk g F r' H' e' σ' → (∀ d, fl = .rt d → ∃ v, Rep g F r' H' d v) → fin g D F r' σ' H' fl
end
section
variable (X : Cx) (ca : Nat → Addr) (dk : Obj → List (V × V) → Prop)
abbrev DG (t : Expr) (f : Wf.Tg) : Prop := PG X t (tG (gd X ca dk) f)
abbrev DGs (t : List Expr) (f : List Wf.Tg) : Prop := PGs X t (tGs (gd X ca dk) f)
abbrev DI (tg it : Expr) (f : EvI) : Prop := PI X tg it (tI (gd X ca dk) f)
abbrev DS (st : Stmt) (f : EvS) : Prop := PS X st (tS (gd X ca dk) f)
abbrev DSs (st : List Stmt) (f : EvS) : Prop := PSs X st (tS (gd X ca dk) f)
end
section
variable {X : Cx} {ca : Nat → Addr} {dk : Obj → List (V × V) → Prop} {a b c : Expr} {fa fb fc : EvD} {pos : Pos}
theorem PG.imp {e : Expr} {t u : L2.TG} (h : PG X e t) (i : ∀ v σ H Q, u v σ H Q → t v σ H Q) : PG X e u :=
  ⟨fun pins s σ H v w Q I r q => h.run pins s σ H v w Q I r (i v σ H Q q)⟩
theorem PGs.imp {e : List Expr} {t u : L2.TGs} (h : PGs X e t) (i : ∀ v σ H Q, u v σ H Q → t v σ H Q) : PGs X e u :=
  ⟨fun pins s σ H v w Q I r q => h.run pins s σ H v w Q I r (i v σ H Q q)⟩
theorem PI.imp {t e : Expr} {w u : L2.TI} (h : PI X t e w) (i : ∀ σ H R, u σ H R → w σ H R) : PI X t e u :=
  ⟨fun pins s σ H R I q => h.run pins s σ H R I (i σ H R q)⟩
theorem PS.imp {e : Stmt} {t u : L2.TS} (h : PS X e t) (i : ∀ D σ H, u D σ H → t D σ H) : PS X e u :=
  ⟨fun pins s σ H D I q => h.run pins s σ H D I (i D σ H q)⟩
theorem PSs.imp {e : List Stmt} {t u : L2.TS} (h : PSs X e t) (i : ∀ D σ H, u D σ H → t D σ H) : PSs X e u :=
  ⟨fun pins s σ H D I q => h.run pins s σ H D I (i D σ H q)⟩

theorem dg_name {i : Nat} {x : Str} (hN : X.N.Nodup) (hi : X.N[i]? = some x) (hx : Loc X.env.scope x) (hf : X.fn x = true ∨ X.env.scope.names.lookup x = some .local) :
    DG X ca dk (.Name x pos) (.nm i) := by
  refine PG.imp (pg_name (i := i) hN hi hx hf) fun v σ H Q h => ?_
  obtain ⟨F, r, e, M, d, e', E, S, R, hb, q⟩ := h
  simp only [bindT] at hb
  cases hb
  exact q _ (E.set R i) fun vs hv => wipe_set (hv i (by simp [slotsT]))
theorem dgs_nil : DGs X ca dk [] [] := by
  refine PGs.imp pgs_nil fun v σ H Q h => ?_
  obtain ⟨F, r, e, M, d, e', E, S, R, hb, q⟩ := h
  cases d with
  | nil =>
    simp only [bindTs] at hb
    cases hb
    exact ⟨repL_nil_iff R, q _ E fun _ _ => rfl⟩
  | cons _ _ => simp [bindTs] at hb
def asgOne (e : Expr) : Bool := notStar e
theorem asg_cons {e : Expr} {es : List Expr} {env : Env} (h : notStar e = true) : assignEach (e :: es) env = (false, assign e env) :: assignEach es env := by
  cases e <;> first | rfl | cases h
theorem dgs_cons {t : Expr} {ts : List Expr} {tg : Wf.Tg} {tgs : List Wf.Tg} (hs : notStar t = true) (h1 : DG X ca dk t tg) (h2 : DGs X ca dk ts tgs) :
    DGs X ca dk (t :: ts) (tg :: tgs) := by
  refine PGs.imp (pgs_cons h1 h2 (by rw [asg_cons hs]; rfl)) fun v σ H Q h => ?_
  obtain ⟨F, r, e, M, d, e', E, S, R, hb, q⟩ := h
  cases d with
  | nil => simp [bindTs] at hb
  | cons d ds =>
    simp only [bindTs] at hb
    obtain ⟨e1, hb1, hb2⟩ := bind_some hb
    obtain ⟨w, ws, rfl, R1, R2⟩ := repL_cons_iff R
    exact ⟨w, ws, rfl, F, r, e, M, d, e1, E, S, R1, hb1, fun σ1 E1 w1 => ⟨F, r, e1, M, ds, e', E1, S, R2, hb2, fun σ2 E2 w2 => q σ2 E2 fun vs hv => (w2 vs fun i hi => hv i (by simp [slotsTs, hi])).trans (w1 vs fun i hi => hv i (by simp [slotsTs, hi]))⟩⟩
theorem bindTs_len : ∀ {tgs : List Wf.Tg} {ds : List D} {e e' : Envi}, bindTs tgs ds e = some e' → ds.length = tgs.length
  | [], [], _, _, _ => rfl
  | [], _ :: _, _, _, h => by simp [bindTs] at h
  | _ :: _, [], _, _, h => by simp [bindTs] at h
  | _ :: _, _ :: _, _, _, h => by
    simp only [bindTs] at h
    obtain ⟨e1, _, h2⟩ := bind_some h
    simp [bindTs_len h2]
theorem asg_len {env : Env} : ∀ {es : List Expr}, (assignEach es env).length = es.length
  | [] => rfl
  | e :: es => by
    cases e <;> (show (assignEach es env).length + 1 = _; rw [asg_len]; rfl)
theorem asg_plain {env : Env} : ∀ {es : List Expr}, es.all notStar = true → (assignEach es env).findIdx? (·.1) = none
  | [], _ => rfl
  | e :: es, h => by
    simp only [List.all_cons, Bool.and_eq_true] at h
    rw [asg_cons h.1, List.findIdx?_cons, asg_plain h.2]; rfl
theorem dg_tup {ts : List Expr} {k : Nat} {tgs : List Wf.Tg} (hc : X.calm = true) (hs : ts.all notStar = true) (hl : ts.length = tgs.length) (h : DGs X ca dk ts tgs) :
    DG X ca dk (.Tuple ts k pos) (.tp tgs) := by
  refine PG.imp (pg_tup (n := tgs.length) hc h (by rw [asg_len, hl]) (asg_plain hs)) fun v σ H Q h => ?_
  obtain ⟨F, r, e, M, d, e', E, S, R, hb, q⟩ := h
  cases d with
  | tup xs =>
    simp only [bindT] at hb
    obtain ⟨a, vs, rfl, hs, hl⟩ := repTup R
    exact ⟨a, vs, rfl, hs, by rw [← hl.length]; exact bindTs_len hb, F, r, e, M, xs, e', E, S, hl, hb, fun σ' E' w => q σ' E' fun vs hv => w vs (by simpa [slotsT] using hv)⟩
  | _ => simp [bindT] at hb

/-- a list or a tuple, whichever comes -/
theorem pi_two {tg l : Expr} {tl : TE} (hl : PE X l tl) : PI X tg l fun σ H R => tl σ H fun x H1 => ∃ a, x = .ref a ∧ (((∃ xs, SqL X.K H1 a xs) ∧ R (Itl X.K a) H1) ∨ ((∃ xs, SqT X.K H1 a xs) ∧ R (Itt X.K a) H1)) := by
  refine ⟨fun pins s σ H R I h => thn (hl.run pins s σ H _ I h) ?_⟩
  rintro v s1 ⟨x, H1, I1, rv, a, rfl, q⟩
  cases rv
  have new : ∀ {ob : Obj} {b : Addr}, b ∈ [s1.heap.objs.size] → FpOk X pins H1 b := fun {_ b} hb => by
    rw [List.mem_singleton.mp hb]
    exact I1.fpOk (Nat.le_refl _) (I1.hok.fresh (Nat.le_refl _))
  rcases q with ⟨⟨xs, hq⟩, q⟩ | ⟨⟨xs, hq⟩, q⟩
  · obtain ⟨its, _, pl, _⟩ := I1.list hq
    exact wpAny_pyIter_list pl.isList ⟨s1.heap.objs.size, [s1.heap.objs.size], _, _, H1, rfl, I1.kept (t' := s1.toks) fun _ _ w => Heap.get?_push_of_some _ w, turn_list a _, ⟨_, Heap.get?_push_size _ rfl, rfl, rfl⟩, fun b hb => new (ob := default) hb, q⟩
  · obtain ⟨its, _, pl, _⟩ := I1.tuple hq
    exact wpAny_pyIter_tuple (show s1.heap.IsTuple a its.toArray from pl) ⟨s1.heap.objs.size, [s1.heap.objs.size], _, _, H1, rfl, I1.kept (t' := s1.toks) fun _ _ w => Heap.get?_push_of_some _ w, turn_tuple a _, ⟨_, Heap.get?_push_size _ rfl, rfl, rfl⟩, fun b hb => new (ob := default) hb, q⟩
theorem SqT.mv {F r F' r' : List Addr} {H H' : Hp} (x : Mv F r H F' r' H') {K : PySem.W.Frag} {a : Addr} {vs : List V} (h : SqT K H a vs) : SqT K H' a vs := by
  rcases h with (h | ⟨o, h⟩) | h
  · exact .inl (.inl (x.tups _ _ h))
  · exact .inl (.inr ⟨o, x.frzs _ _ _ h⟩)
  · exact .inr h
/-- what a list's iterator gives, by a list that stays -/
theorem wk_list {F0 r0 : List Addr} {H0 : Hp} {a : Addr} {s : Src}
    (h : ∀ F r H M, Mv F0 r0 H0 F r H → StOk (gd X ca dk) F r H M → ∀ i x, s.at M i = some x → ∃ xs vs, SqL X.K H a vs ∧ RepL (gd X ca dk) F r H xs vs ∧ x = xs[i]?) : Wk (gd X ca dk) (Itl X.K a) s F0 r0 H0 := by
  intro F r H M m S i x hx
  obtain ⟨xs, vs, h1, h2, rfl⟩ := h F r H M m S i x hx
  refine ⟨fun e => ⟨vs, h1, by rw [← h2.length]; exact List.getElem?_eq_none_iff.mp e⟩, fun d e => ?_⟩
  obtain ⟨v, hv, R⟩ := h2.get e
  refine ⟨⟨vs, v, h1, hv⟩, fun w H' y => ?_⟩
  obtain ⟨rfl, y⟩ := y
  have := (y vs h1).symm.trans hv
  cases this
  exact ⟨Ext.refl, S, R⟩
theorem wk_tup {F0 r0 : List Addr} {H0 : Hp} {a : Addr} {xs : List D} {vs : List V} (h1 : SqT X.K H0 a vs) (h2 : RepL (gd X ca dk) F0 r0 H0 xs vs) : Wk (gd X ca dk) (Itt X.K a) (.fix xs) F0 r0 H0 := by
  intro F r H M m S i x hx
  cases hx
  have h1' := SqT.mv m h1
  have h2' := RepL.mv m h2
  refine ⟨fun e => ⟨vs, h1', by rw [← h2.length]; exact List.getElem?_eq_none_iff.mp e⟩, fun d e => ?_⟩
  obtain ⟨v, hv, R⟩ := h2'.get e
  refine ⟨⟨vs, v, h1', hv⟩, fun w H' y => ?_⟩
  obtain ⟨rfl, y⟩ := y
  have := (y vs h1').symm.trans hv
  cases this
  exact ⟨Ext.refl, S, R⟩
theorem di_seq {tg : Expr} (ha : DE X ca dk a fa) : DI X ca dk tg a fun e M => (fa e M).bind fun p => (srcOf p.2 p.1).map fun s => (s, p.2) := by
  refine PI.imp (pi_two ha) fun σ H R h => ?_
  obtain ⟨F, r, e, M, s, M', E, S, hf, q⟩ := h
  obtain ⟨⟨x, M1⟩, h1, hf⟩ := bind_some hf
  obtain ⟨s', h2, hf⟩ := map_some hf
  cases hf
  refine ⟨F, r, e, M, x, M1, E, S, h1, fun r1 v H1 x1 S1 R1 => ?_⟩
  cases x with
  | tup xs =>
    cases h2
    obtain ⟨p, vs, rfl, s1, l1⟩ := repTup R1
    exact ⟨p, rfl, .inr ⟨⟨vs, s1⟩, q r1 _ H1 x1 S1 (wk_tup s1 l1)⟩⟩
  | lst xs =>
    cases h2
    have R0 := R1
    simp only [Rep] at R1
    obtain ⟨p, vs, rfl, s1, of, l1⟩ := R1
    refine ⟨p, rfl, .inl ⟨⟨vs, .inl (.inl s1)⟩, q r1 _ H1 x1 S1 (wk_list fun F2 r2 H2 M2 m S2 i y hy => ?_)⟩⟩
    cases hy
    exact ⟨xs, vs, .inl (.inl (m.keep _ _ s1 of)), RepL.mv m l1, rfl⟩
  | scr xs =>
    cases h2
    simp only [Rep] at R1
    obtain ⟨p, vs, rfl, s1, l1⟩ := R1
    have sq : SqL X.K H1 p vs := by
      rcases s1 with ⟨o, s1⟩ | s1
      · exact .inl (.inr ⟨o, s1⟩)
      · exact s1 H1
    refine ⟨p, rfl, .inl ⟨⟨vs, sq⟩, q r1 _ H1 x1 S1 (wk_list fun F2 r2 H2 M2 m S2 i y hy => ?_)⟩⟩
    cases hy
    refine ⟨xs, vs, ?_, RepL.mv m l1, rfl⟩
    rcases s1 with ⟨o, s1⟩ | s1
    · exact .inl (.inr ⟨o, m.frzs _ _ _ s1⟩)
    · exact s1 H2
  | loc n =>
    simp only [srcOf] at h2
    split at h2
    · rename_i ys e1
      cases h2
      simp only [Rep] at R1
      obtain ⟨p, hp, rfl⟩ := R1
      obtain ⟨vs, e2, l1⟩ := S1.at_ n p _ hp e1
      refine ⟨p, rfl, .inl ⟨⟨vs, .inl (.inl e2)⟩, q r1 _ H1 x1 S1 (wk_list fun F2 r2 H2 M2 m S2 i y hy => ?_)⟩⟩
      simp only [Src.at] at hy
      split at hy
      · rename_i zs e3
        cases hy
        obtain ⟨ws, e4, l2⟩ := S2.at_ n p _ (m.locs n p hp) e3
        exact ⟨zs, ws, .inl (.inl e4), l2, rfl⟩
      · cases hy
    · cases h2
  | _ => cases h2
theorem rngI_get {lo hi : Int} {i : Nat} : (rngI lo hi)[i]? = if i < (hi - lo).toNat then some (.int (lo + i)) else none := by
  unfold rngI
  rw [List.getElem?_map]
  split
  · rename_i h
    rw [List.getElem?_range h]; rfl
  · rename_i h
    rw [List.getElem?_eq_none (by simpa using h)]; rfl
theorem wk_rng {F0 r0 : List Addr} {H0 : Hp} {lo hi : Int} : Wk (gd X ca dk) (Itr lo (hi - lo).toNat) (.fix (rngI lo hi)) F0 r0 H0 := by
  intro F r H M m S i x hx
  cases hx
  rw [rngI_get]
  split
  · rename_i h
    refine ⟨(fun e => nomatch e), fun d e => ⟨h, fun v H' y => ?_⟩⟩
    cases e
    obtain ⟨rfl, rfl⟩ := y
    exact ⟨Ext.refl, S, by simp [Rep]⟩
  · rename_i h
    exact ⟨fun _ => Nat.le_of_not_lt h, fun d e => nomatch e⟩
theorem smallI_iff {i : Int} (h : smallI i = true) : -(2 ^ 62) ≤ i ∧ i < 2 ^ 62 := of_decide_eq_true h
theorem di_rng1 {tg : Expr} {p : Pos} (hg : Gl X "range") (hm : X.mg "range" = none) (hs : notStar a = true) (ha : DE X ca dk a fa) :
    DI X ca dk tg (.Call (.Name "range" p) [a] [] pos) fun e M => (fa e M).bind fun p => match p.1 with
    | .int j => if smallI j then some (.fix (rngI 0 j), p.2) else none
    | _ => none := by
  refine PI.imp (pi_range1 hg hm (pa_cons ha pa_nil (star_cons hs)) (star_cons hs)) fun σ H R h => ?_
  obtain ⟨F, r, e, M, s, M', E, S, hf, q⟩ := h
  obtain ⟨⟨x, M1⟩, h1, hf⟩ := bind_some hf
  dsimp only at hf
  split at hf
  · split at hf
    · rename_i j hj
      cases hf
      refine ⟨F, r, e, M, _, M', E, S, h1, fun r1 v H1 x1 S1 R1 => ?_⟩
      simp only [Rep] at R1
      obtain ⟨b1, b2⟩ := smallI_iff hj
      have w := wk_rng (X := X) (ca := ca) (dk := dk) (F0 := F) (r0 := r1) (H0 := H1) (lo := 0) (hi := ‹Int›)
      rw [Int.sub_zero] at w
      exact ⟨_, by rw [R1], b1, b2, q r1 _ H1 x1 S1 w⟩
    · cases hf
  · cases hf
theorem di_rng2 {tg : Expr} {p : Pos} (hg : Gl X "range") (hm : X.mg "range" = none) (hs : notStar a = true) (hs2 : notStar b = true) (ha : DE X ca dk a fa) (hb : DE X ca dk b fb) :
    DI X ca dk tg (.Call (.Name "range" p) [a, b] [] pos) fun e M => (fa e M).bind fun p => (fb e p.2).bind fun q => match p.1, q.1 with
    | .int i, .int j => if smallI i ∧ smallI j then some (.fix (rngI i j), q.2) else none
    | _, _ => none := by
  have s2 : starEach [b] X.env = [(false, eval b X.env)] := star_cons hs2
  have s1 : starEach [a, b] X.env = [(false, eval a X.env), (false, eval b X.env)] := by rw [star_cons hs, s2]
  refine PI.imp (pi_range2 hg hm (pa_cons ha (pa_cons hb pa_nil s2) (star_cons hs)) s1 s2) fun σ H R h => ?_
  obtain ⟨F, r, e, M, s, M', E, S, hf, q⟩ := h
  obtain ⟨⟨x, M1⟩, h1, hf⟩ := bind_some hf
  obtain ⟨⟨y, M2⟩, h2, hf⟩ := bind_some hf
  dsimp only at hf
  split at hf
  · split at hf
    · rename_i i j hij
      cases hf
      refine ⟨F, r, e, M, _, M1, E, S, h1, fun r1 v H1 x1 S1 R1 => ⟨F, r1, e, M1, _, M', E.ext x1, S1, h2, fun r2 w H2 x2 S2 R2 => ?_⟩⟩
      simp only [Rep] at R1 R2
      obtain ⟨b1, b2⟩ := smallI_iff hij.1
      obtain ⟨b3, b4⟩ := smallI_iff hij.2
      exact ⟨_, _, by rw [R1, R2], ⟨b1, b2, b3, b4⟩, q r2 _ H2 (x1.trans x2) S2 wk_rng⟩
    · cases hf
  · cases hf
theorem zipI_get {xs ys : List D} {i : Nat} {x : D} (h : (zipI xs ys)[i]? = some x) : ∃ a b, xs[i]? = some a ∧ ys[i]? = some b ∧ x = .tup [a, b] := by
  unfold zipI at h
  rw [List.getElem?_map] at h
  obtain ⟨p, h1, rfl⟩ := map_some h
  obtain ⟨h2, h3⟩ := List.getElem?_zip_eq_some.mp h1
  exact ⟨p.1, p.2, h2, h3, rfl⟩
theorem zipI_none {xs ys : List D} {i : Nat} (h : (zipI xs ys)[i]? = none) : xs.length ≤ i ∨ ys.length ≤ i := by
  have h := List.getElem?_eq_none_iff.mp h
  unfold zipI at h
  rw [List.length_map, List.length_zip] at h
  omega
theorem pair_new {F ρ : List Addr} {H : Hp} {M : Mem} (S : StOk (gd X ca dk) F ρ H M) {x y : D} {v w : V} (h1 : Rep (gd X ca dk) F ρ H x v) (h2 : Rep (gd X ca dk) F ρ H y w) {p : Addr} (hp : H p = none) :
    Ext ρ H ρ (upd H p (.tup [v, w])) ∧ StOk (gd X ca dk) F ρ (upd H p (.tup [v, w])) M ∧ Rep (gd X ca dk) F ρ (upd H p (.tup [v, w])) (.tup [x, y]) (.ref p) :=
  tup_new S (repL_cons h1 (repL_cons h2 repL_nil)) hp
theorem di_zip {elts : List Expr} {kk : Nat} {tpos p : Pos} (hg : Gl X "zip") (hm : X.mg "zip" = none) (hs : notStar a = true) (hs2 : notStar b = true) (ha : DE X ca dk a fa) (hb : DE X ca dk b fb) :
    DI X ca dk (.Tuple elts kk tpos) (.Call (.Name "zip" p) [a, b] [] pos) fun e M => (fa e M).bind fun p => (fb e p.2).bind fun q => match p.1, q.1 with
    | .tup xs, .tup ys => some (.fix (zipI xs ys), q.2)
    | .lst xs, .lst ys => some (.fix (zipI xs ys), q.2)
    | _, _ => none := by
  refine PI.imp (RZ.pi_zipA hg hm (pa_cons ha (pa_cons hb pa_nil (star_cons hs2)) (star_cons hs)) (star_cons hs) (star_none (by simp [hs2]))) fun σ H R h => ?_
  obtain ⟨F, r, e, M, s, M', E, S, hf, q⟩ := h
  obtain ⟨⟨x, M1⟩, h1, hf⟩ := bind_some hf
  obtain ⟨⟨y, M2⟩, h2, hf⟩ := bind_some hf
  dsimp only at hf
  split at hf
  · rename_i xs ys
    cases hf
    refine ⟨F, r, e, M, _, M1, E, S, h1, fun r1 v H1 x1 S1 R1 => ⟨F, r1, e, M1, _, M', E.ext x1, S1, h2, fun r2 w H2 x2 S2 R2 => ?_⟩⟩
    obtain ⟨p1, vs, rfl, s1, l1⟩ := repTup R1
    obtain ⟨p2, ws, rfl, s2, l2⟩ := repTup R2
    have s1' := SqT.mv (Ext.mv (F := F) x2) s1
    have l1' := RepL.ext x2 l1
    refine ⟨p1, p2, vs, ws, rfl, .inr ⟨s1', s2, q r2 _ H2 (x1.trans x2) S2 fun F3 r3 H3 M3 m S3 i z hz => ?_⟩⟩
    cases hz
    have t1 := SqT.mv m s1'
    have t2 := SqT.mv m s2
    have k1 := RepL.mv m l1'
    have k2 := RepL.mv m l2
    refine ⟨fun e0 => ⟨vs, ws, t1, t2, by rw [← l1.length, ← l2.length]; exact zipI_none e0⟩, fun d e0 => ?_⟩
    obtain ⟨da, db, e1, e2, rfl⟩ := zipI_get e0
    obtain ⟨va, g1, g2⟩ := k1.get e1
    obtain ⟨vb, g3, g4⟩ := k2.get e2
    refine ⟨⟨vs, ws, va, vb, t1, t2, g1, g3⟩, fun v H' y => ?_⟩
    obtain ⟨T, a1, a2, rfl, hT, rfl, y1, y2⟩ := y
    cases (y1 vs t1).symm.trans g1
    cases (y2 ws t2).symm.trans g3
    exact pair_new S3 g2 g4 hT
  · rename_i xs ys
    cases hf
    refine ⟨F, r, e, M, _, M1, E, S, h1, fun r1 v H1 x1 S1 R1 => ⟨F, r1, e, M1, _, M', E.ext x1, S1, h2, fun r2 w H2 x2 S2 R2 => ?_⟩⟩
    have R1' := Rep.ext x2 R1
    simp only [Rep] at R1' R2
    obtain ⟨p1, vs, rfl, s1, o1, l1⟩ := R1'
    obtain ⟨p2, ws, rfl, s2, o2, l2⟩ := R2
    refine ⟨p1, p2, vs, ws, rfl, .inl ⟨.inl (.inl s1), .inl (.inl s2), q r2 _ H2 (x1.trans x2) S2 fun F3 r3 H3 M3 m S3 i z hz => ?_⟩⟩
    cases hz
    have t1 : SqL X.K H3 p1 vs := .inl (.inl (m.keep _ _ s1 o1))
    have t2 : SqL X.K H3 p2 ws := .inl (.inl (m.keep _ _ s2 o2))
    have k1 := RepL.mv m l1
    have k2 := RepL.mv m l2
    refine ⟨fun e0 => ⟨vs, ws, t1, t2, by rw [← l1.length, ← l2.length]; exact zipI_none e0⟩, fun d e0 => ?_⟩
    obtain ⟨da, db, e1, e2, rfl⟩ := zipI_get e0
    obtain ⟨va, g1, g2⟩ := k1.get e1
    obtain ⟨vb, g3, g4⟩ := k2.get e2
    refine ⟨⟨vs, ws, va, vb, t1, t2, g1, g3⟩, fun v H' y => ?_⟩
    obtain ⟨T, a1, a2, rfl, hT, rfl, y1, y2⟩ := y
    cases (y1 vs t1).symm.trans g1
    cases (y2 ws t2).symm.trans g3
    exact pair_new S3 g2 g4 hT
  · cases hf
theorem enmI_get {xs : List D} {i : Nat} {x : D} (h : (enmI xs)[i]? = some x) : ∃ a, xs[i]? = some a ∧ x = .tup [.int i, a] := by
  unfold enmI at h
  rw [List.getElem?_map] at h
  obtain ⟨k, h1, rfl⟩ := map_some h
  have hi : i < xs.length := by
    have := (List.getElem?_eq_some_iff.mp h1).1
    simpa using this
  rw [List.getElem?_range hi] at h1
  cases h1
  exact ⟨xs[i], List.getElem?_eq_getElem hi, by rw [List.getD_eq_getElem?_getD, List.getElem?_eq_getElem hi]; rfl⟩
theorem enmI_none {xs : List D} {i : Nat} (h : (enmI xs)[i]? = none) : xs.length ≤ i := by
  have h := List.getElem?_eq_none_iff.mp h
  unfold enmI at h
  simpa using h
theorem di_enm {elts : List Expr} {kk : Nat} {tpos p : Pos} (hg : Gl X "enumerate") (hm : X.mg "enumerate" = none) (hs : notStar a = true) (ha : DE X ca dk a fa) :
    DI X ca dk (.Tuple elts kk tpos) (.Call (.Name "enumerate" p) [a] [] pos) fun e M => (fa e M).bind fun p => match p.1 with
    | .lst xs => some (.fix (enmI xs), p.2)
    | _ => none := by
  refine PI.imp (pi_enum hg hm (pa_cons ha pa_nil (star_cons hs)) (star_cons hs)) fun σ H R h => ?_
  obtain ⟨F, r, e, M, s, M', E, S, hf, q⟩ := h
  obtain ⟨⟨x, M1⟩, h1, hf⟩ := bind_some hf
  dsimp only at hf
  split at hf
  · rename_i xs
    cases hf
    refine ⟨F, r, e, M, _, M', E, S, h1, fun r1 v H1 x1 S1 R1 => ?_⟩
    simp only [Rep] at R1
    obtain ⟨p1, vs, rfl, s1, o1, l1⟩ := R1
    refine ⟨p1, vs, rfl, .inl (.inl s1), q r1 _ H1 x1 S1 fun F3 r3 H3 M3 m S3 i z hz => ?_⟩
    cases hz
    have t1 : SqL X.K H3 p1 vs := .inl (.inl (m.keep _ _ s1 o1))
    have k1 := RepL.mv m l1
    refine ⟨fun e0 => ⟨vs, t1, by rw [← l1.length]; exact enmI_none e0⟩, fun d e0 => ?_⟩
    obtain ⟨da, e1, rfl⟩ := enmI_get e0
    obtain ⟨va, g1, g2⟩ := k1.get e1
    refine ⟨⟨vs, va, t1, g1⟩, fun v H' y => ?_⟩
    obtain ⟨T, a1, rfl, hT, rfl, y1⟩ := y
    cases (y1 vs t1).symm.trans g1
    exact pair_new S3 (by simp [Rep]) g2 hT
  · cases hf

theorem dss_nil : DSs X ca dk [] fun e M => some (.nx, e, M) := by
  refine PSs.imp pss_nil fun D σ H h => ?_
  obtain ⟨F, r, e, M, fl, e', M', E, S, hf, q⟩ := h
  cases hf
  exact q r σ H Ext.refl S E (fun d e => nomatch e)
theorem dss_cons {st : Stmt} {rest : List Stmt} {f fs : EvS} (h1 : DS X ca dk st f) (h2 : DSs X ca dk rest fs) :
    DSs X ca dk (st :: rest) fun e M => (f e M).bind fun p => match p.1 with
    | .nx => fs p.2.1 p.2.2
    | fl => some (fl, p.2.1, p.2.2) := by
  refine PSs.imp (pss_cons h1 h2) fun D σ H h => ?_
  obtain ⟨F, r, e, M, fl, e', M', E, S, hf, q⟩ := h
  obtain ⟨⟨f1, e1, M1⟩, g1, hf⟩ := bind_some hf
  refine ⟨F, r, e, M, f1, e1, M1, E, S, g1, fun r1 σ1 H1 x1 S1 E1 rr => ?_⟩
  cases f1 with
  | nx => exact ⟨F, r1, e1, M1, fl, e', M', E1, S1, hf, fun r2 σ2 H2 x2 => q r2 σ2 H2 (x1.trans x2)⟩
  | rt d => cases hf; exact q r1 σ1 H1 x1 S1 E1 rr
  | bk => cases hf; exact q r1 σ1 H1 x1 S1 E1 rr
  | ct => cases hf; exact q r1 σ1 H1 x1 S1 E1 rr
theorem ds_pass : DS X ca dk (.Pass pos) fun e M => some (.nx, e, M) := by
  refine PS.imp ps_pass fun D σ H h => ?_
  obtain ⟨F, r, e, M, fl, e', M', E, S, hf, q⟩ := h
  cases hf
  exact q r σ H Ext.refl S E (fun d e => nomatch e)
theorem ds_expr (ha : DE X ca dk a fa) (hs : swapsWith a none pos.line X.env = pure false) : DS X ca dk (.Expr a pos) fun e M => (fa e M).map fun p => (.nx, e, p.2) := by
  refine PS.imp (ps_expr ha hs) fun D σ H h => ?_
  obtain ⟨F, r, e, M, fl, e', M', E, S, hf, q⟩ := h
  obtain ⟨⟨x, M1⟩, h1, hf⟩ := map_some hf
  cases hf
  exact ⟨F, r, e, M, x, M1, E, S, h1, fun r1 v H1 x1 S1 R1 => q r1 σ H1 x1 S1 (E.ext x1) (fun d e => nomatch e)⟩
theorem ds_ret (ha : DE X ca dk a fa) : DS X ca dk (.Return (some a) pos) fun e M => (fa e M).map fun p => (.rt p.1, e, p.2) := by
  refine PS.imp (ps_ret ha) fun D σ H h => ?_
  obtain ⟨F, r, e, M, fl, e', M', E, S, hf, q⟩ := h
  obtain ⟨⟨x, M1⟩, h1, hf⟩ := map_some hf
  cases hf
  refine ⟨F, r, e, M, x, M1, E, S, h1, fun r1 v H1 x1 S1 R1 => ?_⟩
  exact q r1 σ H1 x1 S1 (E.ext x1) (fun d e => ⟨v, by cases e; exact R1⟩) v R1
theorem ds_if {sa sb : List Stmt} {f1 f2 : EvS} (hc : DT X ca dk c fun e M => asB (fc e M)) (h1 : DSs X ca dk sa f1) (h2 : DSs X ca dk sb f2) :
    DS X ca dk (.If c sa sb pos) fun e M => (asB (fc e M)).bind fun p => if p.1 = true then f1 e p.2 else f2 e p.2 := by
  refine PS.imp (ps_if hc h1 h2) fun D σ H h => ?_
  obtain ⟨F, r, e, M, fl, e', M', E, S, hf, q⟩ := h
  obtain ⟨⟨k, M1⟩, g1, hf⟩ := bind_some hf
  refine ⟨F, r, e, M, k, M1, E, S, g1, fun r1 H1 x1 S1 => ?_⟩
  cases k with
  | true =>
    rw [if_pos rfl] at hf ⊢
    exact ⟨F, r1, e, M1, fl, e', M', E.ext x1, S1, hf, fun r2 σ2 H2 x2 => q r2 σ2 H2 (x1.trans x2)⟩
  | false =>
    rw [if_neg Bool.false_ne_true] at hf ⊢
    exact ⟨F, r1, e, M1, fl, e', M', E.ext x1, S1, hf, fun r2 σ2 H2 x2 => q r2 σ2 H2 (x1.trans x2)⟩
theorem ds_asg {t : Expr} {bt : Wf.Tg} (ha : DE X ca dk a fa) (ht : DG X ca dk t bt) (hs : swapsWithSole [t] a pos.line X.env = pure false) (hw : swappedStores [t] a X.env = pure none) (h1 : (assignEach [t] X.env).map (·.2) = [assign t X.env]) :
    DS X ca dk (.Assign [t] a pos) fun e M => (fa e M).bind fun p => (bindT bt p.1 e).map fun e' => (.nx, e', p.2) := by
  refine PS.imp (ps_asg ha ht hs hw h1) fun D σ H h => ?_
  obtain ⟨F, r, e, M, fl, e', M', E, S, hf, q⟩ := h
  obtain ⟨⟨x, M1⟩, g1, hf⟩ := bind_some hf
  obtain ⟨e1, g2, hf⟩ := map_some hf
  cases hf
  refine ⟨F, r, e, M, x, M1, E, S, g1, fun r1 v H1 x1 S1 R1 => ⟨F, r1, e, M1, x, _, E.ext x1, S1, R1, g2, fun σ' E' _ => ?_⟩⟩
  exact q r1 σ' H1 x1 S1 E' (fun d e => nomatch e)
end
end Wf
set_option Elab.async false
set_option linter.all false
set_option maxRecDepth 100000
set_option maxHeartbeats 1000000
namespace Wf
open PySem PySem.Spec PyProof.Rows L2
section
variable {X : Cx} {ca : Nat → Addr} {dk : Obj → List (V × V) → Prop} {a b c : Expr} {fa fb fc : EvD} {pos : Pos}

theorem ds_while {body : List Stmt} {fB : EvS} {W : Nat} (hp : PassesOwn (model X.prog X.w) X.A X.env X.xe) (hc : DT X ca dk c fun e M => asB (fc e M)) (hb : DSs X ca dk body fB) :
    DS X ca dk (.While c body [] pos) fun e M => whlN (fun e M => asB (fc e M)) fB W e M := by
  refine PS.imp (ps_while hp hc hb) fun D σ H h => ?_
  obtain ⟨F, r, e, M, fl, e', M', E, S, hf, q⟩ := h
  refine ⟨fun m σ1 H1 => ∃ r1 e1 M1, Ext r H r1 H1 ∧ EnOk (gd X ca dk) F r1 H1 e1 σ1 ∧ StOk (gd X ca dk) F r1 H1 M1 ∧ whlN (fun e M => asB (fc e M)) fB m e1 M1 = some (fl, e', M'), ⟨W, r, e, M, Ext.refl, E, S, hf⟩, ?_⟩
  rintro m σ1 H1 ⟨r1, e1, M1, x1, E1, S1, hf1⟩
  cases m with
  | zero => simp [whlN] at hf1
  | succ m =>
    simp only [whlN] at hf1
    split at hf1
    · cases hf1
    · rename_i M2 hc1
      cases hf1
      refine ⟨F, r1, _, M1, false, _, E1, S1, hc1, fun r2 H2 x2 S2 => iteF ?_⟩
      exact q r2 σ1 H2 (x1.trans x2) S2 (E1.ext x2) (fun d z => nomatch z)
    · rename_i M2 hc1
      refine ⟨F, r1, e1, M1, true, _, E1, S1, hc1, fun r2 H2 x2 S2 => iteT ?_⟩
      refine ⟨fun σ3 H3 => ∃ r3 e3 M3, Ext r H r3 H3 ∧ EnOk (gd X ca dk) F r3 H3 e3 σ3 ∧ StOk (gd X ca dk) F r3 H3 M3 ∧ whlN (fun e M => asB (fc e M)) fB m e3 M3 = some (fl, e', M'), fun σ3 H3 hN => ⟨m, Nat.lt_succ_self m, hN⟩, ?_⟩
      split at hf1
      · cases hf1
      · rename_i e3 M3 hb1
        exact ⟨F, r2, e1, M2, .nx, e3, M3, E1.ext x2, S2, hb1, fun r4 σ4 H4 x4 S4 E4 _ => ⟨r4, e3, M3, (x1.trans x2).trans x4, E4, S4, hf1⟩⟩
      · rename_i e3 M3 hb1
        exact ⟨F, r2, e1, M2, .ct, e3, M3, E1.ext x2, S2, hb1, fun r4 σ4 H4 x4 S4 E4 _ => ⟨r4, e3, M3, (x1.trans x2).trans x4, E4, S4, hf1⟩⟩
      · rename_i e3 M3 hb1
        cases hf1
        exact ⟨F, r2, e1, M2, .bk, e', M', E1.ext x2, S2, hb1, fun r4 σ4 H4 x4 S4 E4 _ => q r4 σ4 H4 ((x1.trans x2).trans x4) S4 E4 (fun d z => nomatch z)⟩
      · rename_i d e3 M3 hb1
        cases hf1
        exact ⟨F, r2, e1, M2, .rt d, e', M', E1.ext x2, S2, hb1, fun r4 σ4 H4 x4 S4 E4 rr => q r4 σ4 H4 ((x1.trans x2).trans x4) S4 E4 rr⟩
theorem ds_for {tg it : Expr} {body : List Stmt} {fi : EvI} {bt : Wf.Tg} {fB : EvS} {W : Nat} (hp : PassesOwn (model X.prog X.w) X.A X.env X.xe) (hcalm : X.calm = true) (hi : DI X ca dk tg it fi) (ht : DG X ca dk tg bt) (hb : DSs X ca dk body fB)
    (hs : ∀ x, foldedSetIterable it X.env x = pure x) : DS X ca dk (.For tg it body [] pos) fun e M => (fi e M).bind fun p => forN p.1 (bindT bt) fB W 0 e p.2 := by
  refine PS.imp (ps_for hp hcalm hi ht hb hs) fun D σ H h => ?_
  obtain ⟨F, r, e, M, fl, e', M', E, S, hf, q⟩ := h
  obtain ⟨⟨s, M1⟩, g1, hf⟩ := bind_some hf
  refine ⟨F, r, e, M, s, M1, E, S, g1, fun r1 J H1 x1 S1 wk => ?_⟩
  refine ⟨fun i m σ2 H2 => ∃ r2 e2 M2, Ext r1 H1 r2 H2 ∧ EnOk (gd X ca dk) F r2 H2 e2 σ2 ∧ StOk (gd X ca dk) F r2 H2 M2 ∧ forN s (bindT bt) fB m i e2 M2 = some (fl, e', M'), ⟨W, r1, e, M1, Ext.refl, E.ext x1, S1, hf⟩, ?_⟩
  rintro i m σ2 H2 ⟨r2, e2, M2, x2, E2, S2, hf2⟩
  cases m with
  | zero => simp [forN] at hf2
  | succ m =>
    simp only [forN] at hf2
    split at hf2
    · cases hf2
    · rename_i hs2
      cases hf2
      exact .inl ⟨(wk F r2 H2 M' x2.mv S2 i none hs2).1 rfl, q r2 σ2 H2 (x1.trans x2) S2 E2 (fun d z => nomatch z)⟩
    · rename_i d hs2
      obtain ⟨go, yl⟩ := (wk F r2 H2 M2 x2.mv S2 i (some d) hs2).2 d rfl
      refine .inr ⟨go, fun σ3 H3 => ∃ r3 e3 M3, Ext r1 H1 r3 H3 ∧ EnOk (gd X ca dk) F r3 H3 e3 σ3 ∧ StOk (gd X ca dk) F r3 H3 M3 ∧ forN s (bindT bt) fB m (i + 1) e3 M3 = some (fl, e', M'), fun σ3 H3 hN => ⟨m, Nat.lt_succ_self m, hN⟩, fun v H3 y => ?_⟩
      obtain ⟨x3, S3, R3⟩ := yl v H3 y
      split at hf2
      · cases hf2
      · rename_i e3 ht1
        refine ⟨F, r2, e2, M2, d, e3, E2.ext x3, S3, R3, ht1, fun σ4 E4 _ => ?_⟩
        split at hf2
        · cases hf2
        · rename_i e5 M5 hb1
          exact ⟨F, r2, e3, M2, .nx, e5, M5, E4, S3, hb1, fun r6 σ6 H6 x6 S6 E6 _ => ⟨r6, e5, M5, (x2.trans x3).trans x6, E6, S6, hf2⟩⟩
        · rename_i e5 M5 hb1
          exact ⟨F, r2, e3, M2, .ct, e5, M5, E4, S3, hb1, fun r6 σ6 H6 x6 S6 E6 _ => ⟨r6, e5, M5, (x2.trans x3).trans x6, E6, S6, hf2⟩⟩
        · rename_i e5 M5 hb1
          cases hf2
          exact ⟨F, r2, e3, M2, .bk, e', M', E4, S3, hb1, fun r6 σ6 H6 x6 S6 E6 _ => q r6 σ6 H6 (((x1.trans x2).trans x3).trans x6) S6 E6 (fun d z => nomatch z)⟩
        · rename_i d2 e5 M5 hb1
          cases hf2
          exact ⟨F, r2, e3, M2, .rt d2, e', M', E4, S3, hb1, fun r6 σ6 H6 x6 S6 E6 rr => q r6 σ6 H6 (((x1.trans x2).trans x3).trans x6) S6 E6 rr⟩

/-- a clause's test, or none -/
abbrev DTs (X : Cx) (ca : Nat → Addr) (dk : Obj → List (V × V) → Prop) (ifs : List Expr) (f : EvB) : Prop := PTs X ifs (tDB (gd X ca dk) f)
theorem dts_nil : DTs X ca dk [] fun _ M => some (true, M) :=
  ⟨fun pins s σ H Q I h => pts_nil.run pins s σ H Q I (by
    obtain ⟨F, r, e, M, d, M', E, S, hf, q⟩ := h
    cases hf
    exact q r H Ext.refl S)⟩
theorem dts_one (h : DT X ca dk c fun e M => asB (fc e M)) : DTs X ca dk [c] fun e M => asB (fc e M) := pts_one h
/-- the reading of a comprehension -/
theorem lc_rd {fi : EvI} {t : Wf.Tg} {ft : EvB} {fe : EvD} {vs : List Nat} {W : Nat} {m : Bool} {σ : L2.St} {H : Hp} {Q : VK} (hv : ∀ i ∈ slotsT t, i ∈ vs)
    (h : tD (gd X ca dk) (fun e M => (fi e M).bind fun p => (lcN p.1 (bindT t) ft fe (wipeE e vs) W 0 [] p.2).bind fun q => mkL m q.1 q.2) σ H Q) :
    tLc (tI (gd X ca dk) fi) (tG (gd X ca dk) t) (tDB (gd X ca dk) ft) (tD (gd X ca dk) fe) vs σ H Q := by
  obtain ⟨F, r, e, M, d, M', E, S, hf, q⟩ := h
  obtain ⟨⟨s, M1⟩, g1, hf⟩ := bind_some hf
  obtain ⟨⟨ys, M9⟩, g2, hf⟩ := bind_some hf
  refine ⟨F, r, e, M, s, M1, E, S, g1, fun r1 J H1 x1 S1 wk => ?_⟩
  intro p hp
  have hpF : p ∉ F := fun z => S1.liveF p z hp
  have m0 : Mv F r1 H1 (p :: F) r1 (upd H1 p (.lst [])) := .foreign hp
  have E0 : EnOk (gd X ca dk) (p :: F) r1 (upd H1 p (.lst [])) (wipeE e vs) (L2.wipe σ vs) := ((E.ext x1).mv m0).wipe vs
  have lv : ∀ b, H1 b ≠ none → upd H1 p (.lst []) b ≠ none := fun b hb => by
    unfold upd
    split
    · simp
    · exact hb
  refine ⟨fun i k H2 => ∃ r2 M2 acc av, Ext r1 H1 r2 H2 ∧ Mv (p :: F) r1 (upd H1 p (.lst [])) (p :: F) r2 H2 ∧ StOk (gd X ca dk) (p :: F) r2 H2 M2 ∧ H2 p = some (.lst av) ∧ RepL (gd X ca dk) (p :: F) r2 H2 acc av ∧
      lcN s (bindT t) ft fe (wipeE e vs) k i acc M2 = some (ys, M9), ⟨W, r1, M1, [], [], ?_, Mv.refl, S1.foreign hp, upd_same, repL_nil, g2⟩, ?_⟩
  · exact Ext.laid hp
  rintro i k H2 ⟨r2, M2, acc, av, x2, mv2, S2, at2, R2, hf2⟩
  have wk2 := wk (p :: F) r2 H2 M2 (m0.trans mv2 lv) S2 i
  cases k with
  | zero => simp [lcN] at hf2
  | succ k =>
    simp only [lcN] at hf2
    split at hf2
    · cases hf2
    · rename_i hs2
      cases hf2
      refine .inl ⟨(wk2 none hs2).1 rfl, ?_⟩
      -- the list is done
      unfold mkL at hf
      split at hf
      · cases m with
        | false =>
          rw [if_neg Bool.false_ne_true] at hf
          cases hf
          refine q r2 _ H2 (x1.trans x2) S2.free ?_
          simp only [Rep]
          exact ⟨p, av, rfl, at2, S2.offP hpF, RepL.mv .free R2⟩
        | true =>
          rw [if_pos rfl] at hf
          cases hf
          refine q (r2 ++ [p]) _ H2 (x1.trans (x2.adopt hp)) (S2.adopt hpF ⟨av, at2, RepL.mv .adopt R2⟩) ?_
          simp only [Rep]
          exact ⟨p, by rw [← S2.len, List.getElem?_append_right (Nat.le_refl _)]; simp, rfl⟩
      · cases hf
    · rename_i dd hs2
      obtain ⟨go, yl⟩ := (wk2 (some dd) hs2).2 dd rfl
      refine .inr ⟨go, fun H5 => ∃ r2 M2 acc av, Ext r1 H1 r2 H5 ∧ Mv (p :: F) r1 (upd H1 p (.lst [])) (p :: F) r2 H5 ∧ StOk (gd X ca dk) (p :: F) r2 H5 M2 ∧ H5 p = some (.lst av) ∧ RepL (gd X ca dk) (p :: F) r2 H5 acc av ∧
        lcN s (bindT t) ft fe (wipeE e vs) k (i + 1) acc M2 = some (ys, M9), fun H5 h5 => ⟨k, Nat.lt_succ_self k, h5⟩, fun v H3 y => ?_⟩
      obtain ⟨x3, S3, R3⟩ := yl v H3 y
      have pr2 : p ∉ r2 := (S2.offP hpF).2
      split at hf2
      · cases hf2
      · rename_i e1 ht1
        have l2 : ∀ b, upd H1 p (.lst []) b ≠ none → H2 b ≠ none := fun b hb => by
          by_cases z : b = p
          · rw [z, at2]; simp
          · rw [upd_ne z] at hb
            exact x2.live b hb
        have E3 : EnOk (gd X ca dk) (p :: F) r2 H3 (wipeE e vs) (L2.wipe σ vs) := (E0.mv mv2).mv x3.mv
        refine ⟨p :: F, r2, wipeE e vs, M2, dd, e1, E3, S3, R3, ht1, fun σ4 E4 w4 => ⟨?_, ?_⟩⟩
        · rw [w4 vs hv, wipe_wipe]
        · split at hf2
          · cases hf2
          · rename_i M4 hc1
            refine ⟨p :: F, r2, e1, M2, false, M4, E4, S3, hc1, fun r5 H5 x5 S5 => iteF ?_⟩
            have x35 := x3.trans x5
            refine ⟨r5, M4, acc, av, x2.trans x35, mv2.trans x35.mv l2, S5, x35.atP at2 pr2, RepL.ext x35 R2, hf2⟩
          · rename_i M4 hc1
            refine ⟨p :: F, r2, e1, M2, true, M4, E4, S3, hc1, fun r5 H5 x5 S5 => iteT ?_⟩
            split at hf2
            · cases hf2
            · rename_i yd M6 hb1
              split at hf2
              · rename_i hz
                refine ⟨p :: F, r5, e1, M4, yd, M6, E4.ext x5, S5, hb1, fun r7 yv H7 x7 S7 R7 => ?_⟩
                have x37 := (x3.trans x5).trans x7
                have at7 : H7 p = some (.lst av) := x37.atP at2 pr2
                have RL7 : RepL (gd X ca dk) (p :: F) r7 H7 (acc ++ [yd]) (av ++ [yv]) := (RepL.ext x37 R2).append (repL_cons R7 repL_nil)
                have pk : Mv (p :: F) r7 H7 (p :: F) r7 (upd H7 p (.lst (av ++ [yv]))) := .poke at7 trivial List.mem_cons_self
                refine ⟨av, at7, by rw [← R2.length]; exact hz, r7, M6, acc ++ [yd], av ++ [yv], (x2.trans x37).pokeO hp, (mv2.trans x37.mv l2).trans pk fun b hb => x37.live b (l2 b hb), S7.poke at7 trivial List.mem_cons_self, upd_same, RepL.mv pk RL7, hf2⟩
              · cases hf2
theorem de_lc {tg it : Expr} {ifs : List Expr} {scope : Scope} {own : List (Str × Nat)} {fi : EvI} {t : Wf.Tg} {ft : EvB} {fe : EvD} {W : Nat} {m : Bool} {elt : Expr} (hc : X.calm = true) (hN : X.N.Nodup) (ok : BlkOk X.N X.env.scope scope own) (hv : ∀ i ∈ slotsT t, i ∈ own.map (·.2)) (hi : DI X ca dk tg it fi)
    (hg : ∀ (s : Shared) (H : Hp) (C : Addr) (cl : List (Str × Addr)) (fp : List Addr), DG (X.blk s H scope (compEnvC scope cl C X.env) fp) ca dk tg t) (ht : ∀ (s : Shared) (H : Hp) (C : Addr) (cl : List (Str × Addr)) (fp : List Addr), DTs (X.blk s H scope (compEnvC scope cl C X.env) fp) ca dk ifs ft)
    (he : ∀ (s : Shared) (H : Hp) (C : Addr) (cl : List (Str × Addr)) (fp : List Addr), DE (X.blk s H scope (compEnvC scope cl C X.env) fp) ca dk elt fe) (hs : ∀ x, foldedSetIterable it X.env x = pure x) :
    DE X ca dk (.ListComp elt [⟨tg, it, ifs, 0⟩] scope pos) fun e M => (fi e M).bind fun p => (lcN p.1 (bindT t) ft fe (wipeE e (own.map (·.2))) W 0 [] p.2).bind fun q => mkL m q.1 q.2 :=
  PE.imp (pe_lc hc hN hi ok hg ht he hs) fun _ _ _ _ _ _ h => lc_rd hv h
theorem ds_setLc {i : Nat} {y : Str} {py : Pos} {spos : Pos} {tg it : Expr} {ifs : List Expr} {scope : Scope} {own : List (Str × Nat)} {fi : EvI} {t : Wf.Tg} {ft : EvB} {fe : EvD} {W : Nat} {m : Bool} {elt : Expr} (hc : X.calm = true) (hN : X.N.Nodup) (hy : X.N[i]? = some y) (hyl : X.env.scope.names.lookup y = some .local)
    (hsw : swapsWith (.ListComp elt [⟨tg, it, ifs, 0⟩] scope pos) (some (.Name y py)) spos.line X.env = pure true) (ok : BlkOk X.N X.env.scope scope own) (hv : ∀ i ∈ slotsT t, i ∈ own.map (·.2)) (hi : DI X ca dk tg it fi)
    (hg : ∀ (s : Shared) (H : Hp) (C : Addr) (cl : List (Str × Addr)) (fp : List Addr), DG (X.blk s H scope (compEnvC scope cl C X.env) fp) ca dk tg t) (ht : ∀ (s : Shared) (H : Hp) (C : Addr) (cl : List (Str × Addr)) (fp : List Addr), DTs (X.blk s H scope (compEnvC scope cl C X.env) fp) ca dk ifs ft)
    (he : ∀ (s : Shared) (H : Hp) (C : Addr) (cl : List (Str × Addr)) (fp : List Addr), DE (X.blk s H scope (compEnvC scope cl C X.env) fp) ca dk elt fe) (hs : ∀ x, foldedSetIterable it X.env x = pure x) :
    DS X ca dk (.Assign [.Name y py] (.ListComp elt [⟨tg, it, ifs, 0⟩] scope pos) spos) fun e M => ((fi e M).bind fun p => (lcN p.1 (bindT t) ft fe (wipeE e (own.map (·.2))) W 0 [] p.2).bind fun q => mkL m q.1 q.2).bind fun p => (bindT (.nm i) p.1 e).map fun e' => (.nx, e', p.2) := by
  refine PS.imp (ps_setLc (wi := tI (gd X ca dk) fi) (te := tD (gd X ca dk) fe) (g := tG (gd X ca dk) t) (tt := tDB (gd X ca dk) ft) hc hN hy hyl hsw hi ok hg ht he hs) fun D σ H h => ?_
  obtain ⟨F, r, e, M, fl, e', M', E, S, hf, q⟩ := h
  obtain ⟨⟨x, M1⟩, g1, hf⟩ := bind_some hf
  obtain ⟨e1, g2, hf⟩ := map_some hf
  simp only [bindT] at g2
  cases g2
  cases hf
  refine lc_rd hv ⟨F, r, e, M, x, M1, E, S, g1, fun r1 v H1 x1 S1 R1 => ?_⟩
  exact q r1 _ H1 x1 S1 ((E.ext x1).set R1 i) (fun d z => nomatch z)
theorem mkT_two {xs : List D} {M M' : Mem} {d : D} (h : mkT xs M = some (d, M')) : d = .tup xs ∧ M' = M := by
  unfold mkT at h
  split at h
  · cases h; exact ⟨rfl, rfl⟩
  · cases h
theorem ds_par {i j : Nat} {x y : Str} {px py pt : Pos} {kt k2 : Nat} {pt2 : Pos} (hc : X.calm = true) (hN : X.N.Nodup) (hi : X.N[i]? = some x) (hj : X.N[j]? = some y) (hij : i ≠ j)
    (hx : X.env.scope.names.lookup x = some .local) (hy : X.env.scope.names.lookup y = some .local) (hsa : notStar a = true) (hsb : notStar b = true) (ha : DE X ca dk a fa) (hb : DE X ca dk b fb)
    (hw : swappedStores [.Tuple [.Name x px, .Name y py] kt pt] (.Tuple [a, b] k2 pt2) X.env = pure (some [x, y])) :
    DS X ca dk (.Assign [.Tuple [.Name x px, .Name y py] kt pt] (.Tuple [a, b] k2 pt2) pos) fun e M =>
      (((fa e M).bind fun p => ((fb e p.2).bind fun q => (some ([], q.2) : Option (List D × Mem)).map fun z => (q.1 :: z.1, z.2)).map fun q => (p.1 :: q.1, q.2)).bind fun p => mkT p.1 p.2).bind fun p => (bindT (.tp [.nm i, .nm j]) p.1 e).map fun e' => (.nx, e', p.2) := by
  refine PS.imp (ps_par hc hN hi hj hij hx hy (da_cons hsa ha (da_cons hsb hb da_nil)) hw rfl) fun D σ H h => ?_
  obtain ⟨F, r, e, M, fl, e', M', E, S, hf, q⟩ := h
  obtain ⟨⟨d, M1⟩, g1, hf⟩ := bind_some hf
  obtain ⟨⟨xs, M2⟩, g0, g1⟩ := bind_some g1
  obtain ⟨rfl, rfl⟩ := mkT_two g1
  obtain ⟨e1, g2, hf⟩ := map_some hf
  refine ⟨F, r, e, M, xs, M1, E, S, g0, fun r1 vs H1 x1 S1 R1 => ?_⟩
  obtain ⟨z1, h1, h2⟩ := bind_some g0
  obtain ⟨z2, h3, h4⟩ := map_some h2
  obtain ⟨z3, h5, h6⟩ := bind_some h3
  obtain ⟨z4, h7, h8⟩ := map_some h6
  cases h7
  cases h8
  cases h4
  obtain ⟨v, w1, rfl, Ra, R1⟩ := repL_cons_iff R1
  obtain ⟨w, w2, rfl, Rb, R1⟩ := repL_cons_iff R1
  cases repL_nil_iff R1
  simp only [bindT, bindTs, Option.bind_some] at g2
  cases g2
  cases hf
  exact ⟨v, w, rfl, q r1 _ H1 x1 S1 (((E.ext x1).set Ra i).set Rb j) (fun d z => nomatch z)⟩
theorem ds_par3 {i j l : Nat} {x y z : Str} {px py pz pt : Pos} {kt k2 : Nat} {pt2 : Pos} (hc : X.calm = true) (hN : X.N.Nodup) (hi : X.N[i]? = some x) (hj : X.N[j]? = some y) (hl : X.N[l]? = some z) (hij : i ≠ j) (hil : i ≠ l) (hjl : j ≠ l)
    (hx : X.env.scope.names.lookup x = some .local) (hy : X.env.scope.names.lookup y = some .local) (hz : X.env.scope.names.lookup z = some .local) (hsa : notStar a = true) (hsb : notStar b = true) (hsc : notStar c = true) (ha : DE X ca dk a fa) (hb : DE X ca dk b fb) (hcc : DE X ca dk c fc)
    (hw : swappedStores [.Tuple [.Name x px, .Name y py, .Name z pz] kt pt] (.Tuple [a, b, c] k2 pt2) X.env = pure (some [x, y, z])) :
    DS X ca dk (.Assign [.Tuple [.Name x px, .Name y py, .Name z pz] kt pt] (.Tuple [a, b, c] k2 pt2) pos) fun e M =>
      (((fa e M).bind fun p => ((fb e p.2).bind fun p => ((fc e p.2).bind fun q => (some ([], q.2) : Option (List D × Mem)).map fun z => (q.1 :: z.1, z.2)).map fun q => (p.1 :: q.1, q.2)).map fun q => (p.1 :: q.1, q.2)).bind fun p => mkT p.1 p.2).bind fun p => (bindT (.tp [.nm i, .nm j, .nm l]) p.1 e).map fun e' => (.nx, e', p.2) := by
  refine PS.imp (ps_par3 hc hN hi hj hl hij hil hjl hx hy hz (da_cons hsa ha (da_cons hsb hb (da_cons hsc hcc da_nil))) hw rfl) fun D σ H h => ?_
  obtain ⟨F, r, e, M, fl, e', M', E, S, hf, q⟩ := h
  obtain ⟨⟨d, M1⟩, g1, hf⟩ := bind_some hf
  obtain ⟨⟨xs, M2⟩, g0, g1⟩ := bind_some g1
  obtain ⟨rfl, rfl⟩ := mkT_two g1
  obtain ⟨e1, g2, hf⟩ := map_some hf
  refine ⟨F, r, e, M, xs, M1, E, S, g0, fun r1 vs H1 x1 S1 R1 => ?_⟩
  obtain ⟨z1, h1, h2⟩ := bind_some g0
  obtain ⟨z2, h3, h4⟩ := map_some h2
  obtain ⟨z3, h5, h6⟩ := bind_some h3
  obtain ⟨z4, h7, h8⟩ := map_some h6
  obtain ⟨z5, h9, h10⟩ := bind_some h7
  obtain ⟨z6, h11, h12⟩ := map_some h10
  cases h11
  cases h12
  cases h8
  cases h4
  obtain ⟨v, w1, rfl, Ra, R1⟩ := repL_cons_iff R1
  obtain ⟨w, w2, rfl, Rb, R1⟩ := repL_cons_iff R1
  obtain ⟨u, w3, rfl, Rc, R1⟩ := repL_cons_iff R1
  cases repL_nil_iff R1
  simp only [bindT, bindTs, Option.bind_some] at g2
  cases g2
  cases hf
  exact ⟨v, w, u, rfl, q r1 _ H1 x1 S1 ((((E.ext x1).set Ra i).set Rb j).set Rc l) (fun d z => nomatch z)⟩

theorem ps_subD {o i v : Expr} {tpos : Pos} {to ti tv : TE} {t : TSet} (hsl : isSlice i = false) (ho : PE X o to) (hi : PE X i ti) (hv : PE X v tv) (hs : PSet X t) (hsw : swapsWith v (some (.Subscript o i tpos)) pos.line X.env = pure false) (hw : swappedStores [.Subscript o i tpos] v X.env = pure none) :
    PS X (.Assign [.Subscript o i tpos] v pos) (tAsg tv (gSub to ti t)) := ps_asg hv (pg_sub ho hi hs fun v => by cases i <;> first | rfl | cases hsl) hsw hw rfl
theorem RepL.setI {F ρ : List Addr} {H : Hp} {g : Gd} {xs : List D} {vs : List V} {d : D} {v : V} (R : RepL g F ρ H xs vs) (j : Nat) (h : Rep g F ρ H d v) : RepL g F ρ H (xs.set j d) (vs.set j v) := R.set h j
def rSb (X : Cx) (ca : Nat → Addr) (dk : Obj → List (V × V) → Prop) : TSet := fun o i v H Q => ∃ F r M a b d M', StOk (gd X ca dk) F r H M ∧ Rep (gd X ca dk) F r H a o ∧ Rep (gd X ca dk) F r H b i ∧ Rep (gd X ca dk) F r H d v ∧ sbD a b d M = some M' ∧
  ∀ H', Ext r H r H' → StOk (gd X ca dk) F r H' M' → Q H'
theorem psetD (hu : X.A.units + 1 < cLine) : PSet X (rSb X ca dk) := by
  intro pins s σ H o i v ov iv u Q I ro ri rv ⟨F, r, M, a, b, d, M', S, Ra, Rb, Rd, hf, q⟩
  unfold sbD at hf
  split at hf
  · rename_i n k
    simp only [Rep] at Ra Rb
    obtain ⟨p, hp, rfl⟩ := Ra
    subst Rb
    split at hf
    · rename_i xs e1
      obtain ⟨j, h1, rfl⟩ := map_some hf
      obtain ⟨vs, e2, l2⟩ := S.at_ n p _ hp e1
      obtain ⟨n1, n2⟩ := lst_wr S hp e2 (l2.setI j Rd)
      exact set_list pins s σ H _ _ v ov iv u Q I ro ri rv ⟨p, vs, k, j, rfl, rfl, e2, by rw [← l2.length]; exact h1, q _ n1 n2⟩
    · cases hf
  · rename_i n k
    simp only [Rep] at Ra Rb
    obtain ⟨p, hp, rfl⟩ := Ra
    subst Rb
    split at hf
    · rename_i ks xs e1
      split at hf
      · cases hf
      · rename_i hk
        cases hf
        obtain ⟨kvs, e2, k2, l2⟩ := S.at_ n p _ hp e1
        have hl : kvs.length = ks.length := by
          have := congrArg List.length k2
          simpa using this
        obtain rfl : ov = Value.ref p := ro
        have none1 : valV kvs (Sum.inr k) = none := by
          unfold valV
          rw [Option.map_eq_none_iff, List.find?_eq_none]
          intro y hy hz
          have hz := of_decide_eq_true hz
          have : y.1 ∈ ks.map Sum.inr := by rw [← k2]; exact List.mem_map_of_mem hy
          rw [hz] at this
          obtain ⟨k', hk', e⟩ := List.mem_map.mp this
          exact hk (.inl (by rw [← Sum.inr.inj e]; exact hk'))
        refine d_setItem hu I (DPut.k (k := Sum.inr k) (v := v) e2 (by omega)) ri rv fun s' I' => ⟨_, I', ?_⟩
        rw [putK_new v none1]
        have x : Ext r H r (upd H p (.dK (kvs ++ [(Sum.inr k, v)]))) := Ext.wr e2 (List.mem_of_getElem? hp) trivial
        refine q _ x (S.wr hp e2 trivial ⟨_, upd_same, by simp [k2], ?_⟩)
        rw [List.map_append]
        exact RepL.ext x (l2.append (repL_cons Rd repL_nil))
    · cases hf
  · cases hf
theorem ds_sub {o i v : Expr} {tpos : Pos} {fo fi fv : EvD} (hu : X.A.units + 1 < cLine) (hsl : isSlice i = false) (ho : DE X ca dk o fo) (hi : DE X ca dk i fi) (hv : DE X ca dk v fv) (hsw : swapsWith v (some (.Subscript o i tpos)) pos.line X.env = pure false) (hw : swappedStores [.Subscript o i tpos] v X.env = pure none) :
    DS X ca dk (.Assign [.Subscript o i tpos] v pos) fun e M => (fv e M).bind fun z => (fo e z.2).bind fun p => (fi e p.2).bind fun q => (sbD p.1 q.1 z.1 q.2).map fun M' => (.nx, e, M') := by
  refine PS.imp (ps_subD hsl ho hi hv (psetD (X := X) (ca := ca) (dk := dk) hu) hsw hw) fun D σ H h => ?_
  obtain ⟨F, r, e, M, fl, e', M', E, S, hf, q⟩ := h
  obtain ⟨⟨z, M1⟩, g1, hf⟩ := bind_some hf
  obtain ⟨⟨x, M2⟩, g2, hf⟩ := bind_some hf
  obtain ⟨⟨y, M3⟩, g3, hf⟩ := bind_some hf
  obtain ⟨M4, g4, hf⟩ := map_some hf
  cases hf
  refine ⟨F, r, e, M, z, M1, E, S, g1, fun r1 v1 H1 x1 S1 R1 => ⟨F, r1, e, M1, x, M2, E.ext x1, S1, g2, fun r2 v2 H2 x2 S2 R2 => ⟨F, r2, e, M2, y, M3, (E.ext x1).ext x2, S2, g3, fun r3 v3 H3 x3 S3 R3 => ?_⟩⟩⟩
  refine ⟨F, r3, M3, x, y, z, _, S3, Rep.ext x3 R2, R3, Rep.ext (x2.trans x3) R1, g4, fun H4 x4 S4 => ?_⟩
  have xx := ((x1.trans x2).trans x3).trans x4
  exact q r3 σ H4 xx S4 (E.ext xx) (fun d w => nomatch w)
end
end Wf
set_option Elab.async false
set_option linter.all false
set_option maxRecDepth 100000
set_option maxHeartbeats 1000000
namespace Wf
open PySem PySem.Spec PyProof.Rows L2

/-- what a module's name is -/
inductive Gt where
  | fn (i : Nat) (ps : List Str)
  | cst (d : D)
structure CT where
  N : List Str
  tb : List (Str × Gt)
  mu : List (Nat × Nat)
def visB (sc : Scope) (x : Str) : Bool := match sc.names.lookup x with
  | some .local => true
  | some .cell => true
  | some .free => true
  | _ => false
def locB (sc : Scope) (x : Str) : Bool := match sc.names.lookup x with
  | some .local => true
  | some .cell => true
  | _ => false
def glB (sc : Scope) (x : Str) : Bool := match sc.names.lookup x with
  | some .globalImplicit => true
  | _ => false
def dbgB (x : Str) : Bool := (x == ("__debug__" : Str)) || (x == ("__classdict__" : Str))
def slotOf (N : List Str) (x : Str) : Option Nat := match N.findIdx? (· == x) with
  | some i => if N[i]? = some x then some i else none
  | none => none
def mutB (T : CT) (p : Pos) : Bool := decide ((p.line, p.col) ∈ T.mu)
def mapO {α β : Type} (f : α → Option β) : List α → Option (List β)
  | [] => some []
  | a :: as => (f a).bind fun b => (mapO f as).map (b :: ·)
def bnames : List Str := ["len", "sum", "tuple", "list", "int", "abs", "min", "max", "all", "any", "repr", "str", "range", "zip", "enumerate"]
def biOf (m : Bool) (x : Str) : Option Bi :=
  if x = "len" then some .len else if x = "sum" then some .sum else if x = "tuple" then some .tuple else if x = "list" then some (.list m) else if x = "int" then some .int else
  if x = "abs" then some .abs else if x = "min" then some .min else if x = "max" then some .max else if x = "all" then some .all else if x = "any" then some .any else
  if x = "repr" then some .repr else if x = "str" then some .str else none
def opOf : Operator → Option Op
  | .Add => some .add
  | .Sub => some .sub
  | .Mult => some .mul
  | .FloorDiv => some .fdiv
  | .Mod => some .mod
  | .Pow => some .pow
  | _ => none
def cmOf : CmpOp → Option Cm
  | .Eq => some .eq
  | .NotEq => some .ne
  | .Lt => some .lt
  | .LtE => some .le
  | .Gt => some .gt
  | .GtE => some .ge
  | .Is => some .is
  | .IsNot => some .isnt
  | _ => none
/-- targets -/
def compT (N : List Str) (sc : Scope) : Nat → Expr → Option Tg
  | 0, _ => none
  | n + 1, e => match e with
    | .Name x _ => if locB sc x then (slotOf N x).map .nm else none
    | .Tuple ts _ _ => if ts.all notStar then (mapO (compT N sc n) ts).map .tp else none
    | _ => none
/-- a target's names with their slots -/
def ownT (N : List Str) : Nat → Expr → List (Str × Nat)
  | 0, _ => []
  | n + 1, e => match e with
    | .Name x _ => match slotOf N x with
      | some i => [(x, i)]
      | none => []
    | .Tuple ts _ _ => ts.flatMap (ownT N n)
    | _ => []
def ownS (N : List Str) (tg : Expr) : List Nat := (ownT N 3 tg).map (·.2)
def isIfE : Expr → Bool
  | .IfExp _ _ _ _ => true
  | _ => false
def keyOf : Option Expr → Option Str
  | some (.Constant (.str k) _ _) => some k
  | _ => none
def isTupE : Expr → Bool
  | .Tuple _ _ _ => true
  | _ => false
section
variable (T : CT)
/-- sources; ce: the expressions -/
def compI (sc : Scope) (ce : Expr → Option Ex) (tg it : Expr) : Option It := match it with
  | .Call (.Name x _) args [] _ => if glB sc x then (match args with
      | [a] => if x = "range" then (if notStar a then (ce a).map .rng1 else none) else if x = "enumerate" then (if notStar a && isTupE tg then (ce a).map .enm else none) else (ce it).map .seq
      | [a, b] => if x = "range" then (if notStar a && notStar b then (ce a).bind fun a' => (ce b).map fun b' => .rng2 a' b' else none) else
          if x = "zip" then (if notStar a && notStar b && isTupE tg then (ce a).bind fun a' => (ce b).map fun b' => .zip a' b' else none) else (ce it).map .seq
      | _ => (ce it).map .seq) else none
  | .Set _ _ _ => none
  | it => (ce it).map .seq
def comp : Nat → Scope → Expr → Option Ex
  | 0, _, _ => none
  | n + 1, sc, e => match e with
    | .Name x _ => if dbgB x then none else if visB sc x then (slotOf T.N x).map .var else if glB sc x then (match T.tb.lookup x with
        | some (.cst d) => some (.gl x d)
        | _ => none) else none
    | .Constant (.int i) _ _ => some (.lit (.int i))
    | .Constant (.str s) _ _ => some (.lit (.str s))
    | .Constant (.bool b) _ _ => some (.lit (.bl b))
    | .Constant .none _ _ => some (.lit .non)
    | .BinOp a op b p => (opOf op).bind fun o => (comp n sc a).bind fun a' => (comp n sc b).map fun b' => .bin o (mutB T p) a' b'
    | .UnaryOp .Not a _ => if isIfE a then none else (comp n sc a).map .not
    | .UnaryOp .USub a _ => (comp n sc a).map .neg
    | .BoolOp _ [a] _ => if isIfE a then none else comp n sc a
    | .BoolOp .And (a :: b :: r) p => if isIfE a then none else (comp n sc a).bind fun a' => (comp n sc (.BoolOp .And (b :: r) p)).map fun b' => .and a' b'
    | .BoolOp .Or (a :: b :: r) p => if isIfE a then none else (comp n sc a).bind fun a' => (comp n sc (.BoolOp .Or (b :: r) p)).map fun b' => .or a' b'
    | .Compare a [op] [b] _ => if behindInMarks op b then none else (cmOf op).bind fun o => (comp n sc a).bind fun a' => (comp n sc b).map fun b' => .cmp o a' b'
    | .Compare a [op, op2] [b, c] _ => if lastMarks [op, op2] [b, c] then none else (cmOf op).bind fun o => (cmOf op2).bind fun o2 => (comp n sc a).bind fun a' => (comp n sc b).bind fun b' => (comp n sc c).map fun c' => .chn o o2 a' b' c'
    | .IfExp c a b _ => if isIfE c then none else (comp n sc c).bind fun c' => (comp n sc a).bind fun a' => (comp n sc b).map fun b' => .ife c' a' b'
    | .Tuple es _ _ => if es.all notStar then (mapO (comp n sc) es).map .tup else none
    | .List es p => if es.all notStar then (mapO (comp n sc) es).map (.lst (mutB T p)) else none
    | .Dict ks vs p => (mapO keyOf ks).bind fun ks' => if ks.length = vs.length ∧ ks ≠ [] ∧ ks.length ≤ 15 ∧ ks'.Nodup then (mapO (comp n sc) vs).map (.dis (mutB T p) ks') else none
    | .Subscript a (.Slice lo hi none _) p => (comp n sc a).bind fun a' => (match lo with
        | none => some none
        | some l => (comp n sc l).map some).bind fun lo' => (match hi with
          | none => some none
          | some h => (comp n sc h).map some).map fun hi' => .slc (mutB T p) a' lo' hi'
    | .Subscript a b _ => if isSlice b then none else (comp n sc a).bind fun a' => (comp n sc b).map fun b' => .idx a' b'
    | .Call (.Name x _) args [] p => if glB sc x && !dbgB x then (match T.tb.lookup x with
        | some (.fn i ps) => if args.all notStar ∧ args.length = ps.length ∧ args ≠ [] then (mapO (comp n sc) args).map (.call i) else none
        | some _ => none
        | none => match args with
          | [a] => if notStar a then (biOf (mutB T p) x).bind fun b => (comp n sc a).map (.bi b) else none
          | _ => none) else none
    | .Call (.Attribute o m ap) [b] [] p => if isSuper o || !notStar b || !(ap.endLine == p.line) then none else
        if m = "append" then (comp n sc o).bind fun o' => (comp n sc b).map fun b' => .app o' b' else
        if m = "extend" then (comp n sc o).bind fun o' => (comp n sc b).map fun b' => .extd o' b' else none
    | .ListComp elt [⟨tg, it, ifs, 0⟩] scope p =>
        if blkC T.N sc scope (ownT T.N 3 tg) then (compT T.N scope 3 tg).bind fun t => if (slotsT t).all (fun i => decide (i ∈ ownS T.N tg)) then
          (compI sc (comp n sc) tg it).bind fun it' => (match ifs with
            | [] => some none
            | [c] => if isIfE c then none else (comp n (relS scope sc) c).map some
            | _ => none).bind fun c' => (comp n (relS scope sc) elt).map fun e' => .lc (mutB T p) (ownS T.N tg) t it' c' e' else none else none
    | _ => none
end
end Wf
set_option Elab.async false
set_option linter.all false
set_option maxRecDepth 100000
set_option maxHeartbeats 2000000
namespace Wf
open PySem PySem.Spec PyProof.Rows L2

/-- a def's promise where no repr runs around it and no exception leaves it -/
structure FnG (P : Program) (w : World) (K : PySem.W.Frag) (mg : Str → Option Value) (base : Heap) (k : Nat) (f : Addr) (fd : FuncData) (ps : List Str) (sp : List V → Hp → VK → Prop) : Prop where
  len : ∀ vs H Q, sp vs H Q → vs.length = ps.length
  run : ∀ A outer s H args us vs Q, Room k A → A.guards = some [] → Env0 P w K mg base A outer s H → BindsTo s fd args (ps.zip us) → Vals vs us → sp vs H Q →
    codeAny (model P w) A (.call (.ref f) args) (CR CX0 outer P w H s Q E0) s
/-- .. that it computes m -/
def spG (g : Gd) (n : Nat) (m : List D → Mem → Option (D × Mem)) : List V → Hp → VK → Prop := fun vs H Q => ∃ F r M ds d M', ds.length = n ∧ StOk g F r H M ∧ RepL g F r H ds vs ∧ m ds M = some (d, M') ∧
  ∀ r' v H', Ext r H r' H' → StOk g F r' H' M' → Rep g F r' H' d v → Q v H'
structure GlobP (P : Program) (w : World) (K : PySem.W.Frag) (mg : Str → Option Value) (base : Heap) (ca : Nat → Addr) (dk : Obj → List (V × V) → Prop) (tb : List (Str × Gt)) (cl : Nat → List D → Mem → Option (D × Mem)) (k : Nat) : Prop where
  fn : ∀ x i ps, tb.lookup x = some (.fn i ps) → ∃ f fd, mg x = some (.ref f) ∧ PySem.W.keepIn K (.ref f) = true ∧ FnG P w K mg base k f fd ps (spG ⟨K, ca, dk⟩ ps.length (cl i)) ∧ Binds K fd ps []
  cst : ∀ x d, tb.lookup x = some (.cst d) → ∃ u v, mg x = some u ∧ RelV v u ∧ ∀ F r H, Rep ⟨K, ca, dk⟩ F r H d v
  blt : ∀ x ∈ bnames, mg x = none
abbrev GlobOk (X : Cx) (ca : Nat → Addr) (dk : Obj → List (V × V) → Prop) (tb : List (Str × Gt)) (cl : Nat → List D → Mem → Option (D × Mem)) (k : Nat) : Prop := GlobP X.prog X.w X.K X.mg X.base ca dk tb cl k
structure Sn (X : Cx) (ca : Nat → Addr) (dk : Obj → List (V × V) → Prop) (T : CT) (cl : Nat → List D → Mem → Option (D × Mem)) (k : Nat) (sc raw : Scope) : Prop where
  N : X.N = T.N
  sc : X.env.scope = sc
  calm : X.calm = true
  nd : T.N.Nodup
  gu : X.A.guards = some []
  room : Room k X.A
  st : ∀ x, locB raw x = true → Loc X.env.scope x ∧ (X.fn x = true ∨ X.env.scope.names.lookup x = some .local)
  gl : GlobOk X ca dk T.tb cl k

section
variable {X : Cx} {ca : Nat → Addr} {dk : Obj → List (V × V) → Prop} {T : CT} {cl : Nat → List D → Mem → Option (D × Mem)} {k : Nat} {sc raw : Scope} {pos : Pos}

theorem de_call {i : Nat} {ps : List Str} {x : Str} {p : Pos} {e : Expr} {es : List Expr} {fs : EvL} (G : GlobOk X ca dk T.tb cl k) (hr : Room k X.A) (hgu : X.A.guards = some []) (ht : T.tb.lookup x = some (.fn i ps)) (hg : Gl X x)
    (hdb : (x == ("__debug__" : Str)) = false) (hs : (e :: es).all notStar = true) (hl : (e :: es).length = ps.length) (hlen : ∀ en M ds M', fs en M = some (ds, M') → ds.length = (e :: es).length) (ha : DA X ca dk (e :: es) fs) :
    DE X ca dk (.Call (.Name x p) (e :: es) [] pos) fun en M => (fs en M).bind fun p => cl i p.1 p.2 := by
  obtain ⟨f, fd, hm, hk, Fg, hb⟩ := G.fn x i ps ht
  have hs' := hs
  simp only [List.all_cons, Bool.and_eq_true] at hs'
  refine ⟨fun pins s σ H Q I h => ?_⟩
  obtain ⟨F, r, en, M, d, M', E, S, hf, q⟩ := h
  obtain ⟨⟨ds, M1⟩, h1, hf⟩ := bind_some hf
  refine wpAny_Call_Name_kw (ld_glob I hg hm ?_ hdb)
  refine PySem.W.callWith_K (h₀ := X.base) I.ok.mod.kin hk ?_ (star_cons hs'.1) (star_none hs'.2)
  refine thn (ha.run pos pins s σ H (fun vs H1 => spG (gd X ca dk) ps.length (cl i) vs H1 Q) I ⟨F, r, en, M, ds, M1, E, S, h1, fun r1 vs H1 x1 S1 R1 => ?_⟩) fun us s1 hh => ?_
  · exact ⟨F, r1, M1, ds, d, M', (hlen _ _ _ _ h1).trans hl, S1, R1, hf, fun r2 v H2 x2 => q r2 v H2 (x1.trans x2)⟩
  · obtain ⟨vs, H1, I1, rv, sp⟩ := hh
    refine ⟨I1.kIn, ?_⟩
    have hlu : us.length = ps.length := by rw [← rv.length]; exact Fg.len _ _ _ sp
    have hbt := hb s1 us I1.kIn (by rw [List.append_nil]; exact hlu)
    rw [List.append_nil] at hbt
    refine wpAny_call (codeAny_mono (Fg.run X.A X.stack s1 H1 ⟨us, []⟩ us vs Q hr hgu I1.env0 hbt rv sp) fun res s2 hq => ?_)
    cases res with
    | error _ => exact False.elim hq
    | ok fl =>
      cases fl with
      | ret u => exact I1.after hq
      | next => exact False.elim hq
      | brk => exact False.elim hq
      | cont => exact False.elim hq

theorem slot_at {N : List Str} {x : Str} {i : Nat} (h : slotOf N x = some i) : N[i]? = some x := by
  unfold slotOf at h
  split at h
  · split at h
    · cases h; assumption
    · cases h
  · cases h
theorem vis_of (h : visB sc x = true) : Vis sc x := by
  unfold visB at h
  split at h
  · exact .inl (by assumption)
  · exact .inr (.inl (by assumption))
  · exact .inr (.inr (by assumption))
  · cases h
theorem loc_of (h : locB sc x = true) : Loc sc x := by
  unfold locB at h
  split at h
  · exact .inl (by assumption)
  · exact .inr (by assumption)
  · cases h
theorem gl_of (S : Sn X ca dk T cl k sc raw) {x : Str} (h : glB sc x = true) : Gl X x := by
  unfold glB at h
  split at h
  · show X.env.scope.names.lookup x = _
    rw [S.sc]; assumption
  · cases h
theorem dbg_of {x : Str} (h : dbgB x = false) : (x == ("__debug__" : Str)) = false ∧ (x == ("__classdict__" : Str)) = false := by
  unfold dbgB at h
  exact Bool.or_eq_false_iff.mp h
theorem mapO_cons {α β : Type} {f : α → Option β} {a : α} {as : List α} {bs : List β} (h : mapO f (a :: as) = some bs) : ∃ b bs', f a = some b ∧ mapO f as = some bs' ∧ bs = b :: bs' := by
  simp only [mapO] at h
  obtain ⟨b, h1, h⟩ := bind_some h
  obtain ⟨bs', h2, h3⟩ := map_some h
  exact ⟨b, bs', h1, h2, h3.symm⟩
theorem mapO_len {α β : Type} {f : α → Option β} : ∀ {as : List α} {bs : List β}, mapO f as = some bs → as.length = bs.length
  | [], _, h => by cases h; rfl
  | _ :: _, _, h => by
    obtain ⟨b, bs', _, h2, rfl⟩ := mapO_cons h
    simp [mapO_len h2]
theorem evs_len {W : Nat} : ∀ {xs : List Ex} {e : Envi} {M : Mem} {ds : List D} {M' : Mem}, evs W cl xs e M = some (ds, M') → ds.length = xs.length
  | [], _, _, _, _, h => by simp only [evs] at h; cases h; rfl
  | x :: xs, _, _, _, _, h => by
    simp only [evs] at h
    obtain ⟨p, _, h⟩ := bind_some h
    obtain ⟨q, h2, h3⟩ := map_some h
    cases h3
    simp [evs_len h2]
theorem da_map {W : Nat} {f : Expr → Option Ex} : ∀ {es : List Expr} {cs : List Ex}, (∀ e ∈ es, ∀ c, f e = some c → DE X ca dk e (ev W cl c)) → es.all notStar = true → mapO f es = some cs → DA X ca dk es (evs W cl cs)
  | [], _, _, _, h => by
    cases h
    have := da_nil (X := X) (ca := ca) (dk := dk)
    exact PA.imp this fun _ _ _ _ _ _ h => by
      obtain ⟨F, r, e, M, d, M', E, S, hf, q⟩ := h
      exact ⟨F, r, e, M, d, M', E, S, by simpa only [evs] using hf, q⟩
  | e :: es, _, hf, hs, h => by
    obtain ⟨c, cs, h1, h2, rfl⟩ := mapO_cons h
    simp only [List.all_cons, Bool.and_eq_true] at hs
    have d1 := hf e List.mem_cons_self c h1
    have d2 := da_map (fun e he => hf e (List.mem_cons_of_mem _ he)) hs.2 h2
    exact PA.imp (da_cons hs.1 d1 d2) fun _ _ _ _ _ _ h => by
      obtain ⟨F, r, e, M, d, M', E, S, hf, q⟩ := h
      exact ⟨F, r, e, M, d, M', E, S, by simpa only [evs] using hf, q⟩
/-- the same computation, said otherwise -/
theorem DE.to {e : Expr} {f f' : EvD} (h : DE X ca dk e f) (hf : ∀ en M, f' en M = f en M) : DE X ca dk e f' := by
  have : f' = f := by funext en M; exact hf en M
  rw [this]; exact h
theorem DT.to {e : Expr} {f f' : EvD} (h : DT X ca dk e fun en M => asB (f en M)) (hf : ∀ en M, f' en M = f en M) : DT X ca dk e fun en M => asB (f' en M) := by
  have : f' = f := by funext en M; exact hf en M
  rw [this]; exact h
theorem DW.to {e : Expr} {f f' : EvD} (h : DW X ca dk e fun en M => asB (f en M)) (hf : ∀ en M, f' en M = f en M) : DW X ca dk e fun en M => asB (f' en M) := by
  have : f' = f := by funext en M; exact hf en M
  rw [this]; exact h
/-- targets -/
theorem compT_ok (S : Sn X ca dk T cl k sc raw) : ∀ (n : Nat) (e : Expr) (t : Tg), compT T.N raw n e = some t → DG X ca dk e t
  | 0, _, _, h => by cases h
  | n + 1, e, t, h => by
    simp only [compT] at h
    split at h
    · split at h
      · rename_i hl
        obtain ⟨i, h1, rfl⟩ := map_some h
        obtain ⟨s1, s2⟩ := S.st _ hl
        exact dg_name (by rw [S.N]; exact S.nd) (by rw [S.N]; exact slot_at h1) s1 s2
      · cases h
    · split at h
      · rename_i ts _ _ hs
        obtain ⟨tgs, h1, rfl⟩ := map_some h
        have go : ∀ {ts : List Expr} {tgs : List Tg}, ts.all notStar = true → mapO (compT T.N raw n) ts = some tgs → DGs X ca dk ts tgs := by
          intro ts
          induction ts with
          | nil => intro tgs _ h; cases h; exact dgs_nil
          | cons a as ih =>
            intro tgs hs h
            obtain ⟨b, bs, g1, g2, rfl⟩ := mapO_cons h
            simp only [List.all_cons, Bool.and_eq_true] at hs
            exact dgs_cons hs.1 (compT_ok S n a b g1) (ih hs.2 g2)
        exact dg_tup S.calm hs (mapO_len h1) (go hs h1)
      · cases h
    · cases h
end
end Wf
set_option Elab.async false
set_option linter.all false
set_option maxRecDepth 100000
set_option maxHeartbeats 4000000
namespace Wf
open PySem PySem.Spec PyProof.Rows L2
section
variable {X : Cx} {ca : Nat → Addr} {dk : Obj → List (V × V) → Prop} {T : CT} {cl : Nat → List D → Mem → Option (D × Mem)} {k : Nat} {sc raw : Scope} {pos : Pos}
theorem DI.to {tg it : Expr} {f f' : EvI} (h : DI X ca dk tg it f) (hf : ∀ en M, f' en M = f en M) : DI X ca dk tg it f' := by
  have : f' = f := by funext en M; exact hf en M
  rw [this]; exact h
theorem compI_ok {W : Nat} {ce : Expr → Option Ex} (S : Sn X ca dk T cl k sc raw) {tg it : Expr} {i : It} (hce : ∀ e c, ce e = some c → DE X ca dk e (ev W cl c)) (h : compI sc ce tg it = some i) :
    DI X ca dk tg it (evi W cl i) ∧ ∀ x, foldedSetIterable it X.env x = pure x := by
  have seq : ∀ {e : Expr} {i : It}, (ce e).map It.seq = some i → DI X ca dk tg e (evi W cl i) := by
    intro e i h
    obtain ⟨c, h1, rfl⟩ := map_some h
    exact (di_seq (hce e c h1)).to fun en M => (by simp only [evi] <;> rfl)
  have bl : ∀ x ∈ bnames, X.mg x = none := S.gl.blt
  unfold compI at h
  split at h
  · rename_i x p args pos
    refine ⟨?_, fun _ => rfl⟩
    split at h
    · rename_i hg
      have gl := gl_of S hg
      split at h
      · rename_i a
        split at h
        · rename_i hx
          subst hx
          split at h
          · rename_i hs
            obtain ⟨c, h1, rfl⟩ := map_some h
            exact (di_rng1 gl (bl _ (by decide)) hs (hce a c h1)).to fun en M => (by simp only [evi] <;> rfl)
          · cases h
        · split at h
          · rename_i hx
            subst hx
            split at h
            · rename_i hs
              rw [Bool.and_eq_true] at hs
              obtain ⟨c, h1, rfl⟩ := map_some h
              obtain ⟨hs, ht⟩ := hs
              cases tg <;> simp only [isTupE] at ht <;> first | cases ht | skip
              exact (di_enm gl (bl _ (by decide)) hs (hce a c h1)).to fun en M => (by simp only [evi] <;> rfl)
            · cases h
          · exact seq h
      · rename_i a b
        split at h
        · rename_i hx
          subst hx
          split at h
          · rename_i hs
            rw [Bool.and_eq_true] at hs
            obtain ⟨c, h1, h⟩ := bind_some h
            obtain ⟨c2, h2, rfl⟩ := map_some h
            exact (di_rng2 gl (bl _ (by decide)) hs.1 hs.2 (hce a c h1) (hce b c2 h2)).to fun en M => (by simp only [evi] <;> rfl)
          · cases h
        · split at h
          · rename_i hx
            subst hx
            split at h
            · rename_i hs
              rw [Bool.and_eq_true, Bool.and_eq_true] at hs
              obtain ⟨c, h1, h⟩ := bind_some h
              obtain ⟨c2, h2, rfl⟩ := map_some h
              obtain ⟨⟨hs, hs2⟩, ht⟩ := hs
              cases tg <;> simp only [isTupE] at ht <;> first | cases ht | skip
              exact (di_zip gl (bl _ (by decide)) hs hs2 (hce a c h1) (hce b c2 h2)).to fun en M => (by simp only [evi] <;> rfl)
            · cases h
          · exact seq h
      · exact seq h
    · cases h
  · cases h
  · rename_i h1 h2
    refine ⟨seq h, fun x => ?_⟩
    cases it <;> first | rfl | (exfalso; exact h2 _ _ _ rfl)
theorem keys_ok {W : Nat} {n : Nat} : ∀ {ks : List (Option Expr)} {vs : List Expr} {ks' : List Str} {cs : List Ex} {ce : Expr → Option Ex}, (∀ e ∈ vs, ∀ c, ce e = some c → DE X ca dk e (ev W cl c)) → mapO keyOf ks = some ks' → ks.length = vs.length → mapO ce vs = some cs →
    DPs X ca dk pos ks vs ks' (evs W cl cs) ∧ ks.all (·.isSome) = true
  | [], [], _, _, _, _, h1, _, h2 => by
    cases h1; cases h2
    refine ⟨?_, rfl⟩
    have : evs W cl ([] : List Ex) = fun _ M => some ([], M) := by funext e M; simp only [evs]
    rw [this]
    exact dps_nil
  | [], _ :: _, _, _, _, _, _, hl, _ => by simp at hl
  | _ :: _, [], _, _, _, _, _, hl, _ => by simp at hl
  | k :: ks, v :: vs, _, _, ce, hce, h1, hl, h2 => by
    obtain ⟨k', ks', g1, g2, rfl⟩ := mapO_cons h1
    obtain ⟨c, cs, g3, g4, rfl⟩ := mapO_cons h2
    obtain ⟨d1, d2⟩ := keys_ok (n := n) (W := W) (fun e he => hce e (List.mem_cons_of_mem _ he)) g2 (by simpa using hl) g4
    unfold keyOf at g1
    split at g1
    · cases g1
      have : evs W cl (c :: cs) = fun e M => (ev W cl c e M).bind fun p => (evs W cl cs e p.2).map fun q => (p.1 :: q.1, q.2) := by funext e M; simp only [evs]
      rw [this]
      exact ⟨dps_cons (hce v List.mem_cons_self c g3) d1, by simpa using d2⟩
    · cases g1
theorem boot_at {x : Str} : (x = "len" → bootBuiltins x = some (.builtin "len")) ∧ (x = "sum" → bootBuiltins x = some (.builtin "sum")) ∧ (x = "tuple" → bootBuiltins x = some (.type "tuple")) ∧ (x = "list" → bootBuiltins x = some (.type "list")) ∧ (x = "int" → bootBuiltins x = some (.type "int")) ∧
    (x = "abs" → bootBuiltins x = some (.builtin "abs")) ∧ (x = "min" → bootBuiltins x = some (.builtin "min")) ∧ (x = "max" → bootBuiltins x = some (.builtin "max")) ∧ (x = "all" → bootBuiltins x = some (.builtin "all")) ∧ (x = "any" → bootBuiltins x = some (.builtin "any")) ∧
    (x = "repr" → bootBuiltins x = some (.builtin "repr")) ∧ (x = "str" → bootBuiltins x = some (.type "str")) := by
  refine ⟨?_, ?_, ?_, ?_, ?_, ?_, ?_, ?_, ?_, ?_, ?_, ?_⟩ <;> (rintro rfl; decide +kernel)
theorem bi_ok {W : Nat} {m : Bool} {x : Str} {b : Bi} {a : Expr} {c : Ex} {p : Pos} (S : Sn X ca dk T cl k sc raw) (hg : Gl X x) (h : biOf m x = some b) (hs : notStar a = true) (ha : DE X ca dk a (ev W cl c)) :
    DE X ca dk (.Call (.Name x p) [a] [] pos) (ev W cl (.bi b c)) := by
  have hu : X.A.units + 64 < cLine := S.room.units
  obtain ⟨b1, b2, b3, b4, b5, b6, b7, b8, b9, b10, b11, b12⟩ := boot_at (x := x)
  have bl : ∀ x ∈ bnames, X.mg x = none := S.gl.blt
  unfold biOf at h
  split at h
  · rename_i hx; cases h; have bb := b1 hx; subst hx
    exact (de_biB cr_len hg (bl _ (by decide)) bb (by decide) (by decide) hs ha).to fun en M => (by simp only [ev] <;> rfl)
  split at h
  · rename_i hx; cases h; have bb := b2 hx; subst hx
    exact (de_biB (cr_sumD S.calm) hg (bl _ (by decide)) bb (by decide) (by decide) hs ha).to fun en M => (by simp only [ev] <;> rfl)
  split at h
  · rename_i hx; cases h; have bb := b3 hx; subst hx
    exact (de_biT cr_tuple hg (bl _ (by decide)) bb (by decide) (by decide) hs ha).to fun en M => (by simp only [ev] <;> rfl)
  split at h
  · rename_i hx; cases h; have bb := b4 hx; subst hx
    exact (de_biT (cr_list (m := m)) hg (bl _ (by decide)) bb (by decide) (by decide) hs ha).to fun en M => (by simp only [ev] <;> rfl)
  split at h
  · rename_i hx; cases h; have bb := b5 hx; subst hx
    exact (de_biT cr_int hg (bl _ (by decide)) bb (by decide) (by decide) hs ha).to fun en M => (by simp only [ev] <;> rfl)
  split at h
  · rename_i hx; cases h; have bb := b6 hx; subst hx
    exact (de_biB cr_abs hg (bl _ (by decide)) bb (by decide) (by decide) hs ha).to fun en M => (by simp only [ev] <;> rfl)
  split at h
  · rename_i hx; cases h; have bb := b7 hx; subst hx
    exact (de_biB (cr_minD S.calm) hg (bl _ (by decide)) bb (by decide) (by decide) hs ha).to fun en M => (by simp only [ev] <;> rfl)
  split at h
  · rename_i hx; cases h; have bb := b8 hx; subst hx
    exact (de_biB (cr_maxD S.calm) hg (bl _ (by decide)) bb (by decide) (by decide) hs ha).to fun en M => (by simp only [ev] <;> rfl)
  split at h
  · rename_i hx; cases h; have bb := b9 hx; subst hx
    exact (de_biB (cr_allD S.calm) hg (bl _ (by decide)) bb (by decide) (by decide) hs ha).to fun en M => (by simp only [ev] <;> rfl)
  split at h
  · rename_i hx; cases h; have bb := b10 hx; subst hx
    exact (de_biB (cr_anyD S.calm) hg (bl _ (by decide)) bb (by decide) (by decide) hs ha).to fun en M => (by simp only [ev] <;> rfl)
  split at h
  · rename_i hx; cases h; have bb := b11 hx; subst hx
    exact (de_biB (cr_repr S.gu hu) hg (bl _ (by decide)) bb (by decide) (by decide) hs ha).to fun en M => (by simp only [ev] <;> rfl)
  split at h
  · rename_i hx; cases h; have bb := b12 hx; subst hx
    exact (de_biT cr_str hg (bl _ (by decide)) bb (by decide) (by decide) hs ha).to fun en M => (by simp only [ev] <;> rfl)
  · cases h
/-- a comprehension's block -/
theorem Sn.blk (S : Sn X ca dk T cl k sc raw) {scope : Scope} (s : Shared) (H : Hp) (C : Addr) (c : List (Str × Addr)) (fp : List Addr) : Sn (X.blk s H scope (compEnvC scope c C X.env) fp) ca dk T cl k (relS scope sc) scope := by
  have hsc : (compEnvC scope c C X.env).scope = relS scope sc := by
    show relS scope X.env.scope = _
    rw [S.sc]
  refine ⟨S.N, hsc, S.calm, S.nd, S.gu, S.room, fun x hx => ?_, ⟨S.gl.fn, S.gl.cst, S.gl.blt⟩⟩
  show Loc (compEnvC scope c C X.env).scope x ∧ ((scope.names.lookup x == some .cell) = true ∨ (compEnvC scope c C X.env).scope.names.lookup x = some .local)
  rw [hsc]
  rcases loc_of hx with h | h
  · have := lookup_relS_keep (sc := sc) (k := .local) (by decide) h
    exact ⟨.inl this, .inr this⟩
  · have := lookup_relS_keep (sc := sc) (k := .cell) (by decide) h
    exact ⟨.inr this, .inl (by rw [h]; rfl)⟩
theorem opOf_ok {op : Operator} {o : Op} {m : Bool} (h : opOf op = some o) : OpR X (binaryOp op) (rD X ca dk (opBin o m)) := by
  cases op <;> simp only [opOf] at h <;> cases h
  · exact opR_add m
  · exact opR_sub m
  · exact opR_mul m
  · exact opR_mod m
  · exact opR_pow m
  · exact opR_fdiv m
theorem cmOf_ok {op : CmpOp} {o : Cm} (hu : X.A.units + 64 < cLine) (h : cmOf op = some o) : OpR X (compareOp op) (rD X ca dk (cmD o)) := by
  cases op <;> simp only [cmOf] at h <;> cases h
  · exact opR_eq hu
  · exact opR_ne hu
  · exact opR_lt
  · exact opR_le
  · exact opR_gt
  · exact opR_ge
  · exact opR_is
  · exact opR_isnt
end
end Wf
set_option Elab.async false
set_option linter.all false
set_option maxRecDepth 100000
set_option maxHeartbeats 4000000
namespace Wf
open PySem PySem.Spec PyProof.Rows L2
structure Good (X : Cx) (ca : Nat → Addr) (dk : Obj → List (V × V) → Prop) (W : Nat) (cl : Nat → List D → Mem → Option (D × Mem)) (e : Expr) (c : Ex) : Prop where
  de : DE X ca dk e (ev W cl c)
  dt : isIfE e = false → DT X ca dk e fun en M => asB (ev W cl c en M)
  dw : ∀ op xs pos, e = .BoolOp op xs pos → DW X ca dk e fun en M => asB (ev W cl c en M)
section
variable {X : Cx} {ca : Nat → Addr} {dk : Obj → List (V × V) → Prop} {T : CT} {cl : Nat → List D → Mem → Option (D × Mem)} {k : Nat} {sc raw : Scope} {pos : Pos}
theorem good_val {W : Nat} {e : Expr} {c : Ex} (h : DE X ca dk e (ev W cl c)) (he : ∀ whole, isTrue e X.env whole = (do let v ← whole; standAt e.pos; holding [v] (truthy v))) (hn : ∀ op xs pos, e ≠ .BoolOp op xs pos) : Good X ca dk W cl e c :=
  ⟨h, fun _ => dt_val h he, fun op xs pos e => absurd e (hn op xs pos)⟩
theorem comp_ok {W : Nat} : ∀ (n : Nat) {X : Cx} {sc raw : Scope} (S : Sn X ca dk T cl k sc raw) (e : Expr) (c : Ex), comp T n sc e = some c → Good X ca dk W cl e c
  | 0, _, _, _, _, _, _, h => by cases h
  | n + 1, X, sc, raw, S, e, c, h => by
    have ih : ∀ (e : Expr) (c : Ex), comp T n sc e = some c → Good X ca dk W cl e c := fun e c => comp_ok n S e c
    have hu : X.A.units + 64 < cLine := S.room.units
    unfold comp at h
    split at h
    -- a name
    · rename_i x p
      split at h
      · cases h
      · rename_i hdb
        obtain ⟨d1, d2⟩ := dbg_of (by simpa using hdb)
        split at h
        · rename_i hv
          obtain ⟨i, h1, rfl⟩ := map_some h
          refine good_val ?_ (fun _ => rfl) (fun _ _ _ z => nomatch z)
          exact (de_var (i := i) (by rw [S.N]; exact slot_at h1) (by rw [S.sc]; exact vis_of hv) d1 d2).to fun en M => (by simp only [ev] <;> rfl)
        · split at h
          · rename_i hg
            split at h
            · rename_i d hd
              cases h
              obtain ⟨u, v, g1, g2, g3⟩ := S.gl.cst x d hd
              refine good_val ?_ (fun _ => rfl) (fun _ _ _ z => nomatch z)
              exact (de_const (pe_glob (gl_of S hg) g1 g2 d1) g3).to fun en M => (by simp only [ev] <;> rfl)
            · cases h
          · cases h
    -- constants
    · cases h
      exact good_val (de_int.to fun en M => (by simp only [ev] <;> rfl)) (fun _ => rfl) (fun _ _ _ z => nomatch z)
    · cases h
      exact good_val (de_str.to fun en M => (by simp only [ev] <;> rfl)) (fun _ => rfl) (fun _ _ _ z => nomatch z)
    · cases h
      exact good_val (de_bl.to fun en M => (by simp only [ev] <;> rfl)) (fun _ => rfl) (fun _ _ _ z => nomatch z)
    · cases h
      exact good_val (de_non.to fun en M => (by simp only [ev] <;> rfl)) (fun _ => rfl) (fun _ _ _ z => nomatch z)
    -- a op b
    · obtain ⟨o, h1, h⟩ := bind_some h
      obtain ⟨a', h2, h⟩ := bind_some h
      obtain ⟨b', h3, rfl⟩ := map_some h
      exact good_val ((de_bin (opOf_ok h1) (ih _ _ h2).de (ih _ _ h3).de).to fun en M => (by simp only [ev] <;> rfl)) (fun _ => rfl) (fun _ _ _ z => nomatch z)
    -- not
    · split at h
      · cases h
      · rename_i hi
        obtain ⟨a', h2, rfl⟩ := map_some h
        have hi := (Bool.not_eq_true _).mp hi
        exact ⟨(de_not (ih _ _ h2).de).to fun en M => (by simp only [ev] <;> rfl), fun _ => (dt_not ((ih _ _ h2).dt hi)).to fun en M => (by simp only [ev] <;> rfl), fun _ _ _ z => nomatch z⟩
    -- -a
    · obtain ⟨a', h2, rfl⟩ := map_some h
      exact good_val ((de_neg (ih _ _ h2).de).to fun en M => (by simp only [ev] <;> rfl)) (fun _ => rfl) (fun _ _ _ z => nomatch z)
    -- and, or
    · split at h
      · cases h
      · rename_i op a p hi
        have hi := (Bool.not_eq_true _).mp hi
        have g := ih _ _ h
        have w : DW X ca dk (.BoolOp op [a] p) fun en M => asB (ev W cl c en M) := by
          cases op
          · exact pw_and1 (g.dt hi)
          · exact pw_or1 (g.dt hi)
        exact ⟨de_one g.de, fun _ => PW.pt w, fun _ _ _ z => by cases z; exact w⟩
    · split at h
      · cases h
      · rename_i a b r p hi
        have hi := (Bool.not_eq_true _).mp hi
        obtain ⟨a', h2, h⟩ := bind_some h
        obtain ⟨b', h3, rfl⟩ := map_some h
        have w : DW X ca dk (.BoolOp .And (a :: b :: r) p) fun en M => asB (ev W cl (.and a' b') en M) := (dw_and ((ih _ _ h2).dt hi) ((ih _ _ h3).dw _ _ _ rfl)).to fun en M => (by simp only [ev] <;> rfl)
        exact ⟨(de_and (ih _ _ h2).de (ih _ _ h3).de).to fun en M => (by simp only [ev] <;> rfl), fun _ => PW.pt w, fun _ _ _ z => by cases z; exact w⟩
    · split at h
      · cases h
      · rename_i a b r p hi
        have hi := (Bool.not_eq_true _).mp hi
        obtain ⟨a', h2, h⟩ := bind_some h
        obtain ⟨b', h3, rfl⟩ := map_some h
        have w : DW X ca dk (.BoolOp .Or (a :: b :: r) p) fun en M => asB (ev W cl (.or a' b') en M) := (dw_or ((ih _ _ h2).dt hi) ((ih _ _ h3).dw _ _ _ rfl)).to fun en M => (by simp only [ev] <;> rfl)
        exact ⟨(de_or (ih _ _ h2).de (ih _ _ h3).de).to fun en M => (by simp only [ev] <;> rfl), fun _ => PW.pt w, fun _ _ _ z => by cases z; exact w⟩
    -- comparisons
    · split at h
      · cases h
      · rename_i hm
        have hm := (Bool.not_eq_true _).mp hm
        obtain ⟨o, h1, h⟩ := bind_some h
        obtain ⟨a', h2, h⟩ := bind_some h
        obtain ⟨b', h3, rfl⟩ := map_some h
        exact ⟨(de_cmp (cmOf_ok hu h1) (ih _ _ h2).de (ih _ _ h3).de hm).to fun en M => (by simp only [ev] <;> rfl), fun _ => (dt_cmp (cmOf_ok hu h1) (ih _ _ h2).de (ih _ _ h3).de hm).to fun en M => (by simp only [ev] <;> rfl), fun _ _ _ z => nomatch z⟩
    · split at h
      · cases h
      · rename_i hm
        have hm := (Bool.not_eq_true _).mp hm
        obtain ⟨o, h1, h⟩ := bind_some h
        obtain ⟨o2, h1', h⟩ := bind_some h
        obtain ⟨a', h2, h⟩ := bind_some h
        obtain ⟨b', h3, h⟩ := bind_some h
        obtain ⟨c', h4, rfl⟩ := map_some h
        exact ⟨(de_chain (cmOf_ok hu h1) (cmOf_ok hu h1') (ih _ _ h2).de (ih _ _ h3).de (ih _ _ h4).de hm).to fun en M => (by simp only [ev] <;> rfl), fun _ => (dt_chain (cmOf_ok hu h1) (cmOf_ok hu h1') (ih _ _ h2).de (ih _ _ h3).de (ih _ _ h4).de hm).to fun en M => (by simp only [ev] <;> rfl), fun _ _ _ z => nomatch z⟩
    -- x if c else y
    · split at h
      · cases h
      · rename_i hi
        have hi := (Bool.not_eq_true _).mp hi
        obtain ⟨c', h2, h⟩ := bind_some h
        obtain ⟨a', h3, h⟩ := bind_some h
        obtain ⟨b', h4, rfl⟩ := map_some h
        exact ⟨(de_ife ((ih _ _ h2).dt hi) (ih _ _ h3).de (ih _ _ h4).de).to fun en M => (by simp only [ev] <;> rfl), (fun z => by cases z), fun _ _ _ z => nomatch z⟩
    -- displays
    · split at h
      · rename_i hs
        obtain ⟨cs, h1, rfl⟩ := map_some h
        exact good_val ((de_tup (da_map (fun e _ c hc => (ih e c hc).de) hs h1)).to fun en M => (by simp only [ev] <;> rfl)) (fun _ => rfl) (fun _ _ _ z => nomatch z)
      · cases h
    · split at h
      · rename_i hs
        obtain ⟨cs, h1, rfl⟩ := map_some h
        exact good_val ((de_lst (da_map (fun e _ c hc => (ih e c hc).de) hs h1)).to fun en M => (by simp only [ev] <;> rfl)) (fun _ => rfl) (fun _ _ _ z => nomatch z)
      · cases h
    · obtain ⟨ks', h1, h⟩ := bind_some h
      split at h
      · rename_i hc
        obtain ⟨c1, c2, c3, c4⟩ := hc
        obtain ⟨cs, h2, rfl⟩ := map_some h
        obtain ⟨d1, d2⟩ := keys_ok (n := n) (W := W) (pos := ‹Pos›) (fun e _ c hc => (ih e c hc).de) h1 c1 h2
        have l1 := mapO_len h1
        have l2 := mapO_len h2
        exact good_val ((de_dis d1 d2 c1 c2 c3 l1.symm c4 (fun e M ds M' he => by rw [evs_len he]; omega)).to fun en M => (by simp only [ev] <;> rfl)) (fun _ => rfl) (fun _ _ _ z => nomatch z)
      · cases h
    -- subscripts
    · obtain ⟨a', h1, h⟩ := bind_some h
      obtain ⟨lo', h2, h⟩ := bind_some h
      obtain ⟨hi', h3, rfl⟩ := map_some h
      have part : ∀ {o : Option Expr} {o' : Option Ex}, (match o with
          | none => some none
          | some l => (comp T n sc l).map some) = some o' → DO X ca dk o (evo W cl o') := by
        intro o o' ho
        cases o with
        | none =>
          cases ho
          have : evo W cl none = fun _ M => some (none, M) := by funext e M; simp only [evo]
          rw [this]; exact do_none
        | some l =>
          obtain ⟨c, g1, rfl⟩ := map_some ho
          have : evo W cl (some c) = fun e M => (ev W cl c e M).bind fun p => (partI p.1).map fun i => (some i, p.2) := by funext e M; simp only [evo]
          rw [this]; exact do_some (ih _ _ g1).de
      exact good_val ((de_slc (ih _ _ h1).de (part h2) (part h3)).to fun en M => (by simp only [ev] <;> rfl)) (fun _ => rfl) (fun _ _ _ z => nomatch z)
    · split at h
      · cases h
      · rename_i hb
        have hb := (Bool.not_eq_true _).mp hb
        obtain ⟨a', h1, h⟩ := bind_some h
        obtain ⟨b', h2, rfl⟩ := map_some h
        exact good_val ((de_idx (by omega) hb (ih _ _ h1).de (ih _ _ h2).de).to fun en M => (by simp only [ev] <;> rfl)) (fun _ => rfl) (fun _ _ _ z => nomatch z)
    -- calls
    · rename_i x p1 args p2
      split at h
      · rename_i hg
        rw [Bool.and_eq_true] at hg
        have gl := gl_of S hg.1
        obtain ⟨d1, _⟩ := dbg_of (by simpa using hg.2)
        split at h
        · rename_i i ps ht
          split at h
          · rename_i hc
            obtain ⟨c1, c2, c3⟩ := hc
            obtain ⟨cs, h1, rfl⟩ := map_some h
            cases args with
            | nil => exact absurd rfl c3
            | cons e0 es0 =>
              refine good_val ?_ (fun _ => rfl) (fun _ _ _ z => nomatch z)
              refine (de_call S.gl S.room S.gu ht gl d1 c1 c2 (fun en M ds M' he => ?_) (da_map (fun e _ c hc => (ih e c hc).de) c1 h1)).to fun en M => (by simp only [ev] <;> rfl)
              rw [evs_len he]; exact (mapO_len h1).symm
          · cases h
        · cases h
        · split at h
          · split at h
            · rename_i hs
              obtain ⟨b, h1, h⟩ := bind_some h
              obtain ⟨a', h2, rfl⟩ := map_some h
              exact good_val (bi_ok S gl h1 hs (ih _ _ h2).de) (fun _ => rfl) (fun _ _ _ z => nomatch z)
            · cases h
          · cases h
      · cases h
    · split at h
      · cases h
      · rename_i hc
        have hc := (Bool.not_eq_true _).mp hc
        rw [Bool.or_eq_false_iff, Bool.or_eq_false_iff] at hc
        obtain ⟨⟨c1, c2⟩, c3⟩ := hc
        simp only [Bool.not_eq_eq_eq_not, Bool.not_false] at c2 c3
        split at h
        · rename_i hm
          subst hm
          obtain ⟨o', h1, h⟩ := bind_some h
          obtain ⟨b', h2, rfl⟩ := map_some h
          exact good_val ((de_app c1 c2 c3 (ih _ _ h1).de (ih _ _ h2).de).to fun en M => (by simp only [ev] <;> rfl)) (fun _ => rfl) (fun _ _ _ z => nomatch z)
        · split at h
          · rename_i hm
            subst hm
            obtain ⟨o', h1, h⟩ := bind_some h
            obtain ⟨b', h2, rfl⟩ := map_some h
            exact good_val ((de_extd c1 c2 c3 (ih _ _ h1).de (ih _ _ h2).de).to fun en M => (by simp only [ev] <;> rfl)) (fun _ => rfl) (fun _ _ _ z => nomatch z)
          · cases h
    -- comprehensions
    · split at h
      · rename_i elt tg it ifs scope p hb
        obtain ⟨t, h1, h⟩ := bind_some h
        split at h
        · rename_i hs
          obtain ⟨it', h2, h⟩ := bind_some h
          obtain ⟨c', h3, h⟩ := bind_some h
          obtain ⟨e', h4, rfl⟩ := map_some h
          obtain ⟨di, df⟩ := compI_ok S (fun e c hc => (ih e c hc).de) h2
          have hs' : ∀ i ∈ slotsT t, i ∈ (ownT T.N 3 tg).map (·.2) := fun i hi => of_decide_eq_true (List.all_eq_true.mp hs i hi)
          have ok : BlkOk X.N X.env.scope scope (ownT T.N 3 tg) := by rw [S.N, S.sc]; exact blkOk_by hb
          refine good_val ?_ (fun _ => rfl) (fun _ _ _ z => nomatch z)
          have base := fun (ft : EvB) (ht : ∀ (s : Shared) (H : Hp) (C : Addr) (c : List (Str × Addr)) (fp : List Addr), DTs (X.blk s H scope (compEnvC scope c C X.env) fp) ca dk ifs ft) =>
            de_lc (pos := p) (t := t) (ft := ft) (fe := ev W cl e') (W := W) (m := mutB T p) S.calm (by rw [S.N]; exact S.nd) ok hs' di (fun s H C c fp => compT_ok (S.blk s H C c fp) 3 tg t h1) ht (fun s H C c fp => (comp_ok n (S.blk s H C c fp) elt e' h4).de) df
          split at h3
          · cases h3
            exact (base _ fun _ _ _ _ _ => dts_nil).to fun en M => (by simp only [ev, ownS] <;> rfl)
          · split at h3
            · cases h3
            · rename_i hi
              obtain ⟨c1, g1, rfl⟩ := map_some h3
              exact (base _ fun s H C c fp => dts_one ((comp_ok n (S.blk s H C c fp) _ c1 g1).dt ((Bool.not_eq_true _).mp hi))).to fun en M => (by simp only [ev, ownS] <;> rfl)
          · cases h3
        · cases h
      · cases h
    · cases h
end
end Wf
set_option Elab.async false
set_option linter.all false
set_option maxRecDepth 100000
set_option maxHeartbeats 4000000
namespace Wf
open PySem PySem.Spec PyProof.Rows L2
def nmsOf (sc : Scope) (ts : List Expr) : List Str := ts.filterMap fun
    | .Name id pos => if sc.names.lookup id == some .local && pos.line == (ts.head?.map (·.pos.line)).getD 0 then some id else none
    | _ => none
theorem sw_none {env : Env} {ts vs : List Expr} {kt k2 : Nat} {pt p2 : Pos} (h : (nmsOf env.scope ts).length ≠ ts.length ∨ vs.all (foldedForSure 8) = true) : swappedStores [.Tuple ts kt pt] (.Tuple vs k2 p2) env = pure none := by
  unfold swappedStores
  dsimp only
  split
  · rfl
  split
  · rfl
  split
  · rfl
  split
  · rfl
  rename_i h1 h2 h3 h4
  rcases h with h | h
  · exfalso
    apply h3
    rw [Bool.or_eq_true]
    exact .inl (bne_iff_ne.mpr h)
  · exact absurd h h4
theorem blk_fn {env : Env} (hk : env.scope.kind = .function) : env.blockKind = .function := by
  unfold Env.blockKind
  rw [hk]; rfl
theorem any_star : ∀ {es : List Expr}, es.all notStar = true → (es.any fun q => match q with
      | .Starred .. => true
      | _ => false) = false
  | [], _ => rfl
  | e :: es, h => by
    simp only [List.all_cons, Bool.and_eq_true] at h
    rw [List.any_cons, any_star h.2, Bool.or_false]
    obtain ⟨h, _⟩ := h
    cases e <;> first | rfl | cases h
theorem sw_two {env : Env} {x y : Str} {a b : Expr} {px py : Pos} {kt k2 : Nat} {pt p2 : Pos} (hk : env.scope.kind = .function) (hx : env.scope.names.lookup x = some .local) (hy : env.scope.names.lookup y = some .local) (hl : (py.line == px.line) = true) (hne : x ≠ y)
    (ha : notStar a = true) (hb : notStar b = true) (hf : [a, b].all (foldedForSure 8) = false) (hc : [a, b].all (constantsAlone 8) = false) :
    swappedStores [.Tuple [.Name x px, .Name y py] kt pt] (.Tuple [a, b] k2 p2) env = pure (some [x, y]) := by
  have kx : env.kindOf x = some .local := hx
  have ky : env.kindOf y = some .local := hy
  have ex : (y == x) = false := beq_eq_false_iff_ne.mpr fun e => hne e.symm
  have e : (List.filterMap (fun (q : Expr) => match q with
      | .Name id pos => if (env.kindOf id == some .local && pos.line == (Option.map (fun (x : Expr) => x.pos.line) [Expr.Name x px, Expr.Name y py].head?).getD 0) = true then some id else none
      | _ => none) [Expr.Name x px, Expr.Name y py]) = [x, y] := by
    simp only [List.head?_cons, Option.map_some, Option.getD_some, Expr.pos, List.filterMap_cons, kx, ky, hl, List.filterMap_nil]
    simp
  have e2 := any_star (es := [a, b]) (by simp [ha, hb])
  unfold swappedStores
  dsimp only
  rw [blk_fn hk, if_neg (by simp), if_neg (by erw [e2]; exact Bool.false_ne_true)]
  erw [e]
  rw [hf, hc]
  simp [List.eraseDups_cons, ex]
theorem sw_three {env : Env} {x y z : Str} {a b c : Expr} {px py pz : Pos} {kt k2 : Nat} {pt p2 : Pos} (hk : env.scope.kind = .function) (hx : env.scope.names.lookup x = some .local) (hy : env.scope.names.lookup y = some .local) (hz : env.scope.names.lookup z = some .local)
    (hl : (py.line == px.line) = true) (hl2 : (pz.line == px.line) = true) (hne : x ≠ y) (hne2 : x ≠ z) (hne3 : y ≠ z)
    (ha : notStar a = true) (hb : notStar b = true) (hcs : notStar c = true) (hf : [a, b, c].all (foldedForSure 8) = false) (hc : [a, b, c].all (constantsAlone 8) = false) :
    swappedStores [.Tuple [.Name x px, .Name y py, .Name z pz] kt pt] (.Tuple [a, b, c] k2 p2) env = pure (some [x, y, z]) := by
  have kx : env.kindOf x = some .local := hx
  have ky : env.kindOf y = some .local := hy
  have kz : env.kindOf z = some .local := hz
  have ex : (y == x) = false := beq_eq_false_iff_ne.mpr fun e => hne e.symm
  have ex2 : (z == x) = false := beq_eq_false_iff_ne.mpr fun e => hne2 e.symm
  have ex3 : (z == y) = false := beq_eq_false_iff_ne.mpr fun e => hne3 e.symm
  have e : (List.filterMap (fun (q : Expr) => match q with
      | .Name id pos => if (env.kindOf id == some .local && pos.line == (Option.map (fun (x : Expr) => x.pos.line) [Expr.Name x px, Expr.Name y py, Expr.Name z pz].head?).getD 0) = true then some id else none
      | _ => none) [Expr.Name x px, Expr.Name y py, Expr.Name z pz]) = [x, y, z] := by
    simp only [List.head?_cons, Option.map_some, Option.getD_some, Expr.pos, List.filterMap_cons, kx, ky, kz, hl, hl2, List.filterMap_nil]
    simp
  have e2 := any_star (es := [a, b, c]) (by simp [ha, hb, hcs])
  unfold swappedStores
  dsimp only
  rw [blk_fn hk, if_neg (by simp), if_neg (by erw [e2]; exact Bool.false_ne_true)]
  erw [e]
  rw [hf, hc]
  simp [List.eraseDups_cons, ex, ex2, ex3]

def isComp : Expr → Bool
  | .ListComp _ _ _ _ => true
  | .SetComp _ _ _ _ => true
  | .DictComp _ _ _ _ _ => true
  | _ => false
/-- y = [..] is stored within the comprehension's frame -/
def setB (sc : Scope) (y : Str) (py p : Pos) (scope : Scope) : Bool := (sc.names.lookup y == some .local) && (py.line == p.line) && !(scope.names.any fun (n, k) => n == y && (k == .local || k == .cell))
section
variable (T : CT)
/-- a, b = x, y -/
def compP (n : Nat) (sc : Scope) (ts vs : List Expr) : Option Sm :=
  if (nmsOf sc ts).length ≠ ts.length ∨ vs.all (foldedForSure 8) = true then
    (if ts.all notStar ∧ vs.all notStar then (mapO (compT T.N sc 3) ts).bind fun t => (mapO (comp T n sc) vs).map fun c => .asg (.tp t) (.tup c) else none) else
  match ts, vs with
  | [.Name x px, .Name y py], [a, b] => if sc.names.lookup x = some .local ∧ sc.names.lookup y = some .local ∧ (py.line == px.line) = true ∧ x ≠ y ∧ notStar a = true ∧ notStar b = true ∧ [a, b].all (foldedForSure 8) = false ∧ [a, b].all (constantsAlone 8) = false then
      (slotOf T.N x).bind fun i => (slotOf T.N y).bind fun j => (comp T n sc a).bind fun a' => (comp T n sc b).map fun b' => .asg (.tp [.nm i, .nm j]) (.tup [a', b']) else none
  | [.Name x px, .Name y py, .Name z pz], [a, b, c] => if sc.names.lookup x = some .local ∧ sc.names.lookup y = some .local ∧ sc.names.lookup z = some .local ∧ (py.line == px.line) = true ∧ (pz.line == px.line) = true ∧ x ≠ y ∧ x ≠ z ∧ y ≠ z ∧ notStar a = true ∧ notStar b = true ∧ notStar c = true ∧
      [a, b, c].all (foldedForSure 8) = false ∧ [a, b, c].all (constantsAlone 8) = false then
      (slotOf T.N x).bind fun i => (slotOf T.N y).bind fun j => (slotOf T.N z).bind fun l => (comp T n sc a).bind fun a' => (comp T n sc b).bind fun b' => (comp T n sc c).map fun c' => .asg (.tp [.nm i, .nm j, .nm l]) (.tup [a', b', c']) else none
  | _, _ => none
def isName : Expr → Bool
  | .Name _ _ => true
  | _ => false
def compS : Nat → Scope → Stmt → Option Sm
  | 0, _, _ => none
  | n + 1, sc, st => match st with
    | .Pass _ => some .pas
    | .Expr e _ => if isComp e then none else (comp T n sc e).map .ex
    | .Return (some e) _ => (comp T n sc e).map .ret
    | .If c a b _ => if isIfE c then none else (comp T n sc c).bind fun c' => (mapO (compS n sc) a).bind fun a' => (mapO (compS n sc) b).map fun b' => .ifs c' a' b'
    | .While c a [] _ => if isIfE c then none else (comp T n sc c).bind fun c' => (mapO (compS n sc) a).map fun a' => .whl c' a'
    | .For tg it a [] _ => (compT T.N sc 3 tg).bind fun t => (compI sc (comp T n sc) tg it).bind fun i => (mapO (compS n sc) a).map fun a' => .fr t i a'
    | .Assign [.Tuple ts _ _] (.Tuple vs _ _) _ => compP T n sc ts vs
    | .Assign [.Subscript o i _] v _ => if isComp v || isSlice i then none else (comp T n sc o).bind fun o' => (comp T n sc i).bind fun i' => (comp T n sc v).map fun v' => .sub o' i' v'
    | .Assign [.Name y py] (.ListComp elt gs scope p) _ => if setB sc y py p scope || (sc.names.lookup y == some .cell) then (slotOf T.N y).bind fun i => (comp T n sc (.ListComp elt gs scope p)).map fun c => .asg (.nm i) c else none
    | .Assign [t] v _ => if isComp v || !notStar t || isTupE v && isTupE t then none else if isName t || isTupE t then (compT T.N sc 3 t).bind fun t' => (comp T n sc v).map fun v' => .asg t' v' else none
    | _ => none
end
section
variable {X : Cx} {ca : Nat → Addr} {dk : Obj → List (V × V) → Prop} {T : CT} {cl : Nat → List D → Mem → Option (D × Mem)} {k : Nat} {sc raw : Scope} {pos : Pos}
theorem DS.to {e : Stmt} {f f' : EvS} (h : DS X ca dk e f) (hf : ∀ en M, f' en M = f en M) : DS X ca dk e f' := by
  have : f' = f := by funext en M; exact hf en M
  rw [this]; exact h
theorem DSs.to {e : List Stmt} {f f' : EvS} (h : DSs X ca dk e f) (hf : ∀ en M, f' en M = f en M) : DSs X ca dk e f' := by
  have : f' = f := by funext en M; exact hf en M
  rw [this]; exact h
theorem nocomp {e : Expr} (h : isComp e = false) (t : Option Expr) (l : Nat) (env : Env) : swapsWith e t l env = pure false := by
  cases e <;> first | rfl | cases h
theorem noswap_name {x : Str} {p : Pos} {v : Expr} {env : Env} : swappedStores [.Name x p] v env = pure none := by
  cases v <;> rfl
theorem noswap_sub {o i : Expr} {p : Pos} {v : Expr} {env : Env} : swappedStores [.Subscript o i p] v env = pure none := by
  cases v <;> rfl
theorem noswap_tup {ts : List Expr} {kk : Nat} {p : Pos} {v : Expr} {env : Env} (h : isTupE v = false) : swappedStores [.Tuple ts kk p] v env = pure none := by
  cases v <;> first | rfl | cases h
theorem sw_cell {y : Str} {py p : Pos} {elt : Expr} {gs : List Comprehension} {scope : Scope} {l : Nat} {env : Env} (h : env.scope.names.lookup y = some .cell) : swapsWith (.ListComp elt gs scope p) (some (.Name y py)) l env = pure false := by
  have ky : env.kindOf y = some .cell := h
  unfold swapsWith
  simp only [ky]
  have : (some NameKind.cell == some NameKind.local) = false := rfl
  simp only [this, Bool.and_false, Bool.false_and]
theorem comp_lc {n : Nat} {elt : Expr} {gs : List Comprehension} {scope : Scope} {p : Pos} {c : Ex} (h : comp T n sc (.ListComp elt gs scope p) = some c) :
    ∃ m tg it ifs t it' c' e', n = m + 1 ∧ gs = [⟨tg, it, ifs, 0⟩] ∧ blkC T.N sc scope (ownT T.N 3 tg) = true ∧ compT T.N scope 3 tg = some t ∧ (slotsT t).all (fun i => decide (i ∈ ownS T.N tg)) = true ∧ compI sc (comp T m sc) tg it = some it' ∧ (match ifs with
            | [] => some none
            | [c] => if isIfE c then none else (comp T m (relS scope sc) c).map some
            | _ => none) = some c' ∧ comp T m (relS scope sc) elt = some e' ∧ c = .lc (mutB T p) (ownS T.N tg) t it' c' e' := by
  cases n with
  | zero => cases h
  | succ m =>
    unfold comp at h
    split at h
    all_goals first | (rename_i z; cases z; done) | skip
    · rename_i z
      cases z
      split at h
      · rename_i g1
        obtain ⟨t, h1, h⟩ := bind_some h
        split at h
        · rename_i g3
          obtain ⟨it', h2, h⟩ := bind_some h
          obtain ⟨c', h3, h⟩ := bind_some h
          obtain ⟨e', h4, rfl⟩ := map_some h
          exact ⟨m, _, _, _, t, it', c', e', rfl, rfl, g1, h1, g3, h2, h3, h4, rfl⟩
        · cases h
      · cases h
    · cases h
theorem noswap_of {t v : Expr} {env : Env} (hn : (isName t || isTupE t) = true) (hc : isTupE v = false ∨ isTupE t = false) : swappedStores [t] v env = pure none := by
  cases t with
  | Name x p => exact noswap_name
  | Tuple ts k p =>
    rcases hc with hc | hc
    · exact noswap_tup hc
    · cases hc
  | _ => cases hn
theorem dts_map {T : CT} {n : Nat} {sc : Scope} (S : Sn X ca dk T cl k sc sc) : ∀ {ts : List Expr} {tgs : List Tg}, ts.all notStar = true → mapO (compT T.N sc n) ts = some tgs → DGs X ca dk ts tgs
  | [], _, _, h => by cases h; exact dgs_nil
  | a :: as, _, hs, h => by
    obtain ⟨b, bs, g1, g2, rfl⟩ := mapO_cons h
    simp only [List.all_cons, Bool.and_eq_true] at hs
    exact dgs_cons hs.1 (compT_ok S n a b g1) (dts_map S hs.2 g2)
theorem compP_ok {W : Nat} (S : Sn X ca dk T cl k sc sc) (hk : sc.kind = .function) {n : Nat} {ts vs : List Expr} {kt k2 : Nat} {pt p2 : Pos} {s : Sm} (h : compP T n sc ts vs = some s) :
    DS X ca dk (.Assign [.Tuple ts kt pt] (.Tuple vs k2 p2) pos) (ex W cl s) := by
  have ih : ∀ (e : Expr) (c : Ex), comp T n sc e = some c → DE X ca dk e (ev W cl c) := fun e c hc => (comp_ok n S e c hc).de
  have hk' : X.env.scope.kind = .function := by rw [S.sc]; exact hk
  unfold compP at h
  split at h
  · rename_i hn
    split at h
    · rename_i hs
      obtain ⟨t, h1, h⟩ := bind_some h
      obtain ⟨c, h2, rfl⟩ := map_some h
      have dv := de_tup (pos := p2) (k := k2) (da_map (W := W) (fun e _ c hc => ih e c hc) hs.2 h2)
      have dt := dg_tup (pos := pt) (k := kt) S.calm hs.1 (mapO_len h1) (dts_map S hs.1 h1)
      exact (ds_asg dv dt rfl (sw_none (by rw [S.sc]; exact hn)) rfl).to fun en M => (by simp only [ex, ev] <;> rfl)
    · cases h
  · split at h
    · split at h
      · rename_i hc
        obtain ⟨c1, c2, c3, c4, c5, c6, c7, c8⟩ := hc
        obtain ⟨i, h1, h⟩ := bind_some h
        obtain ⟨j, h2, h⟩ := bind_some h
        obtain ⟨a', h3, h⟩ := bind_some h
        obtain ⟨b', h4, rfl⟩ := map_some h
        have n1 := slot_at h1
        have n2 := slot_at h2
        have hij : i ≠ j := fun z => c4 (by subst z; rw [n1] at n2; exact Option.some.inj n2)
        rw [← S.sc] at c1 c2
        exact (ds_par S.calm (by rw [S.N]; exact S.nd) (by rw [S.N]; exact n1) (by rw [S.N]; exact n2) hij c1 c2 c5 c6 (ih _ _ h3) (ih _ _ h4) (sw_two hk' c1 c2 c3 c4 c5 c6 c7 c8)).to fun en M => (by simp only [ex, ev, evs] <;> rfl)
      · cases h
    · split at h
      · rename_i hc
        obtain ⟨c1, c2, c3, c4, c5, c6, c7, c8, c9, c10, c11, c12, c13⟩ := hc
        obtain ⟨i, h1, h⟩ := bind_some h
        obtain ⟨j, h2, h⟩ := bind_some h
        obtain ⟨l, h2', h⟩ := bind_some h
        obtain ⟨a', h3, h⟩ := bind_some h
        obtain ⟨b', h4, h⟩ := bind_some h
        obtain ⟨c', h5, rfl⟩ := map_some h
        have n1 := slot_at h1
        have n2 := slot_at h2
        have n3 := slot_at h2'
        have hij : i ≠ j := fun z => c6 (by subst z; rw [n1] at n2; exact Option.some.inj n2)
        have hil : i ≠ l := fun z => c7 (by subst z; rw [n1] at n3; exact Option.some.inj n3)
        have hjl : j ≠ l := fun z => c8 (by subst z; rw [n2] at n3; exact Option.some.inj n3)
        rw [← S.sc] at c1 c2 c3
        exact (ds_par3 S.calm (by rw [S.N]; exact S.nd) (by rw [S.N]; exact n1) (by rw [S.N]; exact n2) (by rw [S.N]; exact n3) hij hil hjl c1 c2 c3 c9 c10 c11 (ih _ _ h3) (ih _ _ h4) (ih _ _ h5) (sw_three hk' c1 c2 c3 c4 c5 c6 c7 c8 c9 c10 c11 c12 c13)).to fun en M => (by simp only [ex, ev, evs] <;> rfl)
      · cases h
    · cases h
theorem dss_map {W : Nat} {f : Stmt → Option Sm} : ∀ {es : List Stmt} {cs : List Sm}, (∀ e ∈ es, ∀ c, f e = some c → DS X ca dk e (ex W cl c)) → mapO f es = some cs → DSs X ca dk es (exs W cl cs)
  | [], _, _, h => by
    cases h
    exact dss_nil.to fun en M => (by simp only [exs] <;> rfl)
  | e :: es, _, hf, h => by
    obtain ⟨c, cs, h1, h2, rfl⟩ := mapO_cons h
    exact (dss_cons (hf e List.mem_cons_self c h1) (dss_map (fun e he => hf e (List.mem_cons_of_mem _ he)) h2)).to fun en M => (by simp only [exs] <;> rfl)
theorem compS_ok {W : Nat} (S : Sn X ca dk T cl k sc sc) (hk : sc.kind = .function) (hxe : X.xe = fun _ _ => False) : ∀ (n : Nat) (st : Stmt) (s : Sm), compS T n sc st = some s → DS X ca dk st (ex W cl s)
  | 0, _, _, h => by cases h
  | n + 1, st, s, h => by
    have ih : ∀ (st : Stmt) (s : Sm), compS T n sc st = some s → DS X ca dk st (ex W cl s) := compS_ok S hk hxe n
    have ie : ∀ (e : Expr) (c : Ex), comp T n sc e = some c → Good X ca dk W cl e c := fun e c hc => comp_ok n S e c hc
    have hu : X.A.units + 64 < cLine := S.room.units
    have hp : PassesOwn (model X.prog X.w) X.A X.env X.xe := by rw [hxe]; exact PassesOwn.never
    unfold compS at h
    split at h
    · cases h
      exact ds_pass.to fun en M => (by simp only [ex] <;> rfl)
    · split at h
      · cases h
      · rename_i hc
        have hc := (Bool.not_eq_true _).mp hc
        obtain ⟨c, h1, rfl⟩ := map_some h
        exact (ds_expr (ie _ _ h1).de (nocomp hc _ _ _)).to fun en M => (by simp only [ex] <;> rfl)
    · obtain ⟨c, h1, rfl⟩ := map_some h
      exact (ds_ret (ie _ _ h1).de).to fun en M => (by simp only [ex] <;> rfl)
    · split at h
      · cases h
      · rename_i hc
        have hc := (Bool.not_eq_true _).mp hc
        obtain ⟨c, h1, h⟩ := bind_some h
        obtain ⟨a', h2, h⟩ := bind_some h
        obtain ⟨b', h3, rfl⟩ := map_some h
        exact (ds_if ((ie _ _ h1).dt hc) (dss_map (fun e _ c hc => ih e c hc) h2) (dss_map (fun e _ c hc => ih e c hc) h3)).to fun en M => (by simp only [ex] <;> rfl)
    · split at h
      · cases h
      · rename_i hc
        have hc := (Bool.not_eq_true _).mp hc
        obtain ⟨c, h1, h⟩ := bind_some h
        obtain ⟨a', h2, rfl⟩ := map_some h
        exact (ds_while hp ((ie _ _ h1).dt hc) (dss_map (fun e _ c hc => ih e c hc) h2)).to fun en M => (by simp only [ex] <;> rfl)
    · obtain ⟨t, h1, h⟩ := bind_some h
      obtain ⟨i, h2, h⟩ := bind_some h
      obtain ⟨a', h3, rfl⟩ := map_some h
      obtain ⟨di, df⟩ := compI_ok S (fun e c hc => (ie e c hc).de) h2
      exact (ds_for hp S.calm di (compT_ok S 3 _ t h1) (dss_map (fun e _ c hc => ih e c hc) h3) df).to fun en M => (by simp only [ex] <;> rfl)
    · exact compP_ok S hk h
    · split at h
      · cases h
      · rename_i hc
        have hc := (Bool.not_eq_true _).mp hc
        rw [Bool.or_eq_false_iff] at hc
        obtain ⟨o', h1, h⟩ := bind_some h
        obtain ⟨i', h2, h⟩ := bind_some h
        obtain ⟨v', h3, rfl⟩ := map_some h
        exact (ds_sub (by omega) hc.2 (ie _ _ h1).de (ie _ _ h2).de (ie _ _ h3).de (nocomp hc.1 _ _ _) noswap_sub).to fun en M => (by simp only [ex] <;> rfl)
    · rename_i y py elt gs scope p spos
      split at h
      · rename_i hc
        obtain ⟨i, h1, h⟩ := bind_some h
        obtain ⟨c, h2, rfl⟩ := map_some h
        have hN : X.N[i]? = some y := by rw [S.N]; exact slot_at h1
        by_cases hb : setB sc y py p scope = true
        · obtain ⟨m, tg, it, ifs, t, it', c', e', rfl, rfl, g1, g2, g3, g4, g5, g6, rfl⟩ := comp_lc h2
          have hb' := hb
          unfold setB at hb'
          simp only [Bool.and_eq_true, Bool.not_eq_true'] at hb'
          obtain ⟨⟨b1, b2⟩, b3⟩ := hb'
          have b1 : X.env.scope.names.lookup y = some .local := by rw [S.sc]; exact beq_iff_eq.mp b1
          have im : ∀ (e : Expr) (c : Ex), comp T m sc e = some c → DE X ca dk e (ev W cl c) := fun e c hc => (comp_ok m S e c hc).de
          obtain ⟨di, df⟩ := compI_ok S im g4
          have hs' : ∀ i ∈ slotsT t, i ∈ (ownT T.N 3 tg).map (·.2) := fun i hi => of_decide_eq_true (List.all_eq_true.mp g3 i hi)
          have ok : BlkOk X.N X.env.scope scope (ownT T.N 3 tg) := by rw [S.N, S.sc]; exact blkOk_by g1
          have base := fun (ft : EvB) (ht : ∀ (s : Shared) (H : Hp) (C : Addr) (c : List (Str × Addr)) (fp : List Addr), DTs (X.blk s H scope (compEnvC scope c C X.env) fp) ca dk ifs ft) =>
            ds_setLc (pos := p) (spos := spos) (py := py) (t := t) (ft := ft) (fe := ev W cl e') (W := W) (m := mutB T p) S.calm (by rw [S.N]; exact S.nd) hN b1 (sw_true (by rw [S.sc]; exact hk) b1 b2 b3) ok hs' di (fun s H C c fp => compT_ok (S.blk s H C c fp) 3 tg t g2) ht (fun s H C c fp => (comp_ok m (S.blk s H C c fp) elt e' g6).de) df
          split at g5
          · cases g5
            exact (base _ fun _ _ _ _ _ => dts_nil).to fun en M => (by simp only [ex, ev, ownS] <;> rfl)
          · split at g5
            · cases g5
            · rename_i hi
              obtain ⟨c1, z1, rfl⟩ := map_some g5
              exact (base _ fun s H C c fp => dts_one ((comp_ok m (S.blk s H C c fp) _ c1 z1).dt ((Bool.not_eq_true _).mp hi))).to fun en M => (by simp only [ex, ev, ownS] <;> rfl)
          · cases g5
        · rw [(Bool.not_eq_true _).mp hb, Bool.false_or] at hc
          have hcell : sc.names.lookup y = some .cell := beq_iff_eq.mp hc
          have hl : locB sc y = true := by unfold locB; rw [hcell]
          obtain ⟨s1, s2⟩ := S.st y hl
          refine (ds_asg (ie _ _ h2).de (dg_name (pos := py) (by rw [S.N]; exact S.nd) hN s1 s2) (sw_cell (l := spos.line) (by rw [S.sc]; exact hcell)) noswap_name rfl).to fun en M => (by simp only [ex] <;> rfl)
      · cases h
    · split at h
      · cases h
      · rename_i hc
        have hc := (Bool.not_eq_true _).mp hc
        simp only [Bool.or_eq_false_iff, Bool.and_eq_false_iff] at hc
        obtain ⟨⟨c1, c2⟩, c3⟩ := hc
        split at h
        · rename_i hn
          obtain ⟨t', h1, h⟩ := bind_some h
          obtain ⟨v', h2, rfl⟩ := map_some h
          have c2 := congrArg (!·) c2
          simp only [Bool.not_not, Bool.not_false] at c2
          have dt := compT_ok S 3 _ t' h1
          have h1' := asg_cons (es := []) (env := X.env) c2
          exact (ds_asg (ie _ _ h2).de dt (nocomp c1 _ _ _) (noswap_of hn c3) (by rw [h1']; rfl)).to fun en M => (by simp only [ex] <;> rfl)
        · cases h
    · cases h
end
end Wf
set_option Elab.async false
set_option linter.all false
set_option maxRecDepth 100000
set_option maxHeartbeats 4000000
namespace Wf
open PySem PySem.Spec PyProof.Rows L2

structure Fd where
  name : Str
  ps : List Str
  N : List Str
  code : List Sm
  pure : Bool
mutual
/-- no mutable thing within -/
def lf : D → Bool
  | .tup xs => lfL xs
  | .lst xs => lfL xs
  | .scr xs => lfL xs
  | .sdc _ xs => lfL xs
  | .dct ks xs => lfL ks && lfL xs
  | .ins _ _ xs => lfL xs
  | .loc _ => false
  | _ => true
def lfL : List D → Bool
  | [] => true
  | d :: ds => lf d && lfL ds
end
def startE (n : Nat) (ds : List D) : Envi := ds.map some ++ List.replicate (n - ds.length) none
def outR : Rr → Option (D × Mem)
  | some (.nx, _, M) => some (.non, M)
  | some (.rt d, _, M) => some (d, M)
  | _ => none
section
variable (W : Nat) (defs : List Fd)
def runB (cl : Nat → List D → Mem → Option (D × Mem)) (f : Fd) (ds : List D) (M : Mem) : Option (D × Mem) := outR (exs W cl f.code (startE f.N.length ds) M)
def evalFn : Nat → Nat → List D → Mem → Option (D × Mem)
  | 0, _, _, _ => none
  | n + 1, i, ds, M => match defs[i]? with
    | none => none
    | some f => if ds.length = f.ps.length then
        (if f.pure then (if lfL ds then (runB W (evalFn n) f ds []).bind fun p => (fz p.2 p.1).map fun d => (d, M) else none)
          else runB W (evalFn n) f ds M) else none
end

section
variable {g : Gd} {F r F' r' : List Addr} {H H' : Hp} {M : Mem}
mutual
theorem Rep.lfree (off : ∀ a, Off F r a → Off F' r' a) : ∀ {d : D} {v : V}, lf d = true → Rep g F r H d v → Rep g F' r' H d v
  | .non, _, _, h => by simpa [Rep] using h
  | .bl _, _, _, h => by simpa [Rep] using h
  | .int _, _, _, h => by simpa [Rep] using h
  | .str _, _, _, h => by simpa [Rep] using h
  | .opq, _, _, h => by simpa [Rep] using h
  | .tup xs, _, l, h => by
    simp only [lf] at l
    simp only [Rep] at h ⊢
    obtain ⟨a, vs, e, hs, hl⟩ := h
    exact ⟨a, vs, e, hs, RepL.lfree off l hl⟩
  | .lst xs, _, l, h => by
    simp only [lf] at l
    simp only [Rep] at h ⊢
    obtain ⟨a, vs, e, hs, ho, hl⟩ := h
    exact ⟨a, vs, e, hs, off a ho, RepL.lfree off l hl⟩
  | .scr xs, _, l, h => by
    simp only [lf] at l
    simp only [Rep] at h ⊢
    obtain ⟨a, vs, e, hs, hl⟩ := h
    exact ⟨a, vs, e, hs, RepL.lfree off l hl⟩
  | .sdc ks xs, _, l, h => by
    simp only [lf] at l
    simp only [Rep] at h ⊢
    obtain ⟨a, kvs, e, hs, ho, hk, hl⟩ := h
    exact ⟨a, kvs, e, hs, off a ho, hk, RepL.lfree off l hl⟩
  | .dct ks xs, _, l, h => by
    simp only [lf, Bool.and_eq_true] at l
    simp only [Rep] at h ⊢
    obtain ⟨a, o, kvs, e, hs, ho, hd, hk, hl⟩ := h
    exact ⟨a, o, kvs, e, hs, off a ho, hd, RepL.lfree off l.1 hk, RepL.lfree off l.2 hl⟩
  | .ins c ns xs, _, l, h => by
    simp only [lf] at l
    simp only [Rep] at h ⊢
    obtain ⟨a, dx, fs, e, hs, ho, hk, hl⟩ := h
    exact ⟨a, dx, fs, e, hs, off a ho, hk, RepL.lfree off l hl⟩
  | .loc _, _, l, _ => by simp [lf] at l
theorem RepL.lfree (off : ∀ a, Off F r a → Off F' r' a) : ∀ {ds : List D} {vs : List V}, lfL ds = true → RepL g F r H ds vs → RepL g F' r' H ds vs
  | [], _, _, h => by simpa [RepL] using h
  | d :: ds, _, l, h => by
    simp only [lfL, Bool.and_eq_true] at l
    simp only [RepL] at h ⊢
    obtain ⟨v, w, e, h1, h2⟩ := h
    exact ⟨v, w, e, Rep.lfree off l.1 h1, RepL.lfree off l.2 h2⟩
end
section
variable {k : Nat → Option D}
mutual
theorem fzG_rep (hk : ∀ n d' a, k n = some d' → r[n]? = some a → Rep g F [] H d' (.ref a)) : ∀ {d d' : D} {v : V}, fzG k d = some d' → Rep g F r H d v → Rep g F [] H d' v
  | .non, _, _, h, R => by cases h; simpa [Rep] using R
  | .bl _, _, _, h, R => by cases h; simpa [Rep] using R
  | .int _, _, _, h, R => by cases h; simpa [Rep] using R
  | .str _, _, _, h, R => by cases h; simpa [Rep] using R
  | .opq, _, _, h, R => by cases h; simpa [Rep] using R
  | .tup xs, _, _, h, R => by
    simp only [fzG] at h
    obtain ⟨ys, h1, rfl⟩ := map_some h
    simp only [Rep] at R ⊢
    obtain ⟨a, vs, e, hs, hl⟩ := R
    exact ⟨a, vs, e, hs, fzL_rep hk h1 hl⟩
  | .lst xs, _, _, h, R => by
    simp only [fzG] at h
    obtain ⟨ys, h1, rfl⟩ := map_some h
    simp only [Rep] at R ⊢
    obtain ⟨a, vs, e, hs, ho, hl⟩ := R
    exact ⟨a, vs, e, hs, ⟨ho.1, by simp⟩, fzL_rep hk h1 hl⟩
  | .scr xs, _, _, h, R => by
    simp only [fzG] at h
    obtain ⟨ys, h1, rfl⟩ := map_some h
    simp only [Rep] at R ⊢
    obtain ⟨a, vs, e, hs, hl⟩ := R
    exact ⟨a, vs, e, hs, fzL_rep hk h1 hl⟩
  | .sdc ks xs, _, _, h, R => by
    simp only [fzG] at h
    obtain ⟨ys, h1, rfl⟩ := map_some h
    simp only [Rep] at R ⊢
    obtain ⟨a, kvs, e, hs, ho, hkk, hl⟩ := R
    exact ⟨a, kvs, e, hs, ⟨ho.1, by simp⟩, hkk, fzL_rep hk h1 hl⟩
  | .dct ks xs, _, _, h, R => by
    simp only [fzG] at h
    obtain ⟨ys, h1, h⟩ := bind_some h
    obtain ⟨zs, h2, rfl⟩ := map_some h
    simp only [Rep] at R ⊢
    obtain ⟨a, o, kvs, e, hs, ho, hd, hkk, hl⟩ := R
    exact ⟨a, o, kvs, e, hs, ⟨ho.1, by simp⟩, hd, fzL_rep hk h1 hkk, fzL_rep hk h2 hl⟩
  | .ins c ns xs, _, _, h, R => by
    simp only [fzG] at h
    obtain ⟨ys, h1, rfl⟩ := map_some h
    simp only [Rep] at R ⊢
    obtain ⟨a, dx, fs, e, hs, ho, hkk, hl⟩ := R
    exact ⟨a, dx, fs, e, hs, ⟨ho.1, by simp⟩, hkk, fzL_rep hk h1 hl⟩
  | .loc n, _, _, h, R => by
    simp only [fzG] at h
    simp only [Rep] at R
    obtain ⟨a, ha, rfl⟩ := R
    exact hk n _ a h ha
theorem fzL_rep (hk : ∀ n d' a, k n = some d' → r[n]? = some a → Rep g F [] H d' (.ref a)) : ∀ {ds ds' : List D} {vs : List V}, fzL k ds = some ds' → RepL g F r H ds vs → RepL g F [] H ds' vs
  | [], _, _, h, R => by cases h; simpa [RepL] using R
  | d :: ds, _, _, h, R => by
    simp only [fzL] at h
    obtain ⟨d', h1, h⟩ := bind_some h
    obtain ⟨ds', h2, rfl⟩ := map_some h
    obtain ⟨v, w, rfl, r1, r2⟩ := repL_cons_iff R
    exact repL_cons (fzG_rep hk h1 r1) (fzL_rep hk h2 r2)
end
end
theorem fzN_rep (S : StOk g F r H M) : ∀ (f n : Nat) (d' : D) (a : Addr), fzN M f n = some d' → r[n]? = some a → Rep g F [] H d' (.ref a)
  | 0, _, _, _, h, _ => by cases h
  | f + 1, n, d', a, h, ha => by
    have aF : a ∉ F := S.off a (List.mem_of_getElem? ha)
    simp only [fzN] at h
    split at h
    · rename_i xs e
      obtain ⟨ys, h1, rfl⟩ := map_some h
      obtain ⟨vs, e1, hl⟩ := S.at_ n a _ ha e
      simp only [Rep]
      exact ⟨a, vs, rfl, e1, ⟨aF, by simp⟩, fzL_rep (fun n d' a => fzN_rep S f n d' a) h1 hl⟩
    · rename_i ks xs e
      obtain ⟨ys, h1, rfl⟩ := map_some h
      obtain ⟨kvs, e1, hk, hl⟩ := S.at_ n a _ ha e
      simp only [Rep]
      exact ⟨a, kvs, rfl, e1, ⟨aF, by simp⟩, hk, fzL_rep (fun n d' a => fzN_rep S f n d' a) h1 hl⟩
    · rename_i ks xs e
      obtain ⟨ys, h1, h⟩ := bind_some h
      obtain ⟨zs, h2, rfl⟩ := map_some h
      obtain ⟨o, kvs, e1, hd, hk, hl⟩ := S.at_ n a _ ha e
      simp only [Rep]
      exact ⟨a, o, kvs, rfl, e1, ⟨aF, by simp⟩, hd, fzL_rep (fun n d' a => fzN_rep S f n d' a) h1 hk, fzL_rep (fun n d' a => fzN_rep S f n d' a) h2 hl⟩
    · rename_i c ns xs e
      obtain ⟨ys, h1, rfl⟩ := map_some h
      obtain ⟨dx, fs, e1, hk, hl⟩ := S.at_ n a _ ha e
      simp only [Rep]
      exact ⟨a, dx, fs, rfl, e1, ⟨aF, by simp⟩, hk, fzL_rep (fun n d' a => fzN_rep S f n d' a) h1 hl⟩
    · cases h
theorem fz_rep (S : StOk g F r H M) {d d' : D} {v : V} (h : fz M d = some d') (R : Rep g F r H d v) : Rep g F [] H d' v := fzG_rep (fun n d' a => fzN_rep S 6 n d' a) h R
theorem Mv.back : Mv (F ++ r) [] H F r H := by
  refine ⟨fun n a h => by simp at h, fun a _ h => ⟨fun z => h.1 (List.mem_append_left _ z), fun z => h.1 (List.mem_append_right _ z)⟩, fun _ _ h _ => h, fun _ _ h => h, fun _ _ _ h => h⟩
/-- a promise of a pure def, from its body's -/
theorem spG_pure {n : Nat} {m : List D → Mem → Option (D × Mem)} {vs : List V} {Q : VK} (h : spG g n (fun ds M => if lfL ds then (m ds []).bind fun p => (fz p.2 p.1).map fun d => (d, M) else none) vs H Q) : spG g n m vs H Q := by
  obtain ⟨F, r, M, ds, d, M', hl, S, R, hm, q⟩ := h
  dsimp only at hm
  split at hm
  · rename_i hlf
    obtain ⟨⟨d0, M0⟩, h1, hm⟩ := bind_some hm
    obtain ⟨d1, h2, hm⟩ := map_some hm
    cases hm
    refine ⟨F ++ r, [], [], ds, d0, M0, hl, ⟨rfl, by simp, by simp, fun b hb => ?_, fun _ _ _ z => by simp at z⟩, RepL.lfree (fun a ha => ⟨fun z => ?_, by simp⟩) hlf R, h1, fun r' v H' x S' R' => ?_⟩
    · rcases List.mem_append.mp hb with hb | hb
      · exact S.liveF b hb
      · exact S.live hb
    · rcases List.mem_append.mp z with z | z
      · exact ha.1 z
      · exact ha.2 z
    · have sm : Same H H' := fun b o hb => x.keep b o hb (by simp)
      exact q r v H' (Ext.same sm) (S.same sm) (Rep.mv .back (fz_rep S' h2 R'))
  · cases hm
end

section
variable {P : Program} {w : World} {K : PySem.W.Frag} {mg : Str → Option Value} {base : Heap} {ca : Nat → Addr} {dk : Obj → List (V × V) → Prop}
/-- a def entered: its body's reading at the arguments -/
theorem fnG_of {x qual : Str} {st : Stmt} {f : Addr} {fd : FuncData} {N ps : List Str} {k : Nat} {sp : List V → Hp → VK → Prop} (Fn : Fun K x qual st f fd) (S : FnScope N ps (defScope st)) (len : ∀ vs H Q, sp vs H Q → vs.length = ps.length)
    (body : ∀ cdv A outer s H vs Q, Room k (A.deeper (envOfC qual (defScope st) s.heap.objs.size f cdv)) → A.guards = some [] → sp vs H Q →
      ∃ t, PSs (cxOf CX0 P w K mg base N qual (defScope st) f cdv A outer s H E0).nox (defBody st) t ∧ t { nx := fun _ H' => Q .non H', rt := Q } (L2.start N vs) H) : FnG P w K mg base (k + 1) f fd ps sp := by
  obtain ⟨oc, od, kV, doc, pm, an, cdv, ct, osl, rfl, lk, hcd⟩ := Fn.ex
  refine ⟨len, fun A outer s H args us vs Q hr hg e0 hb rv hsp => ?_⟩
  have hl := len _ _ _ hsp
  have hin : K.In s.heap := e0.mod.kin.keeps fun b o e => (e0.bs b o e).1
  have hlim : s.heap.NoLimit := e0.mod.nolimit.keeps fun b o e => (e0.bs b o e).1
  refine codeAny_call_function hr.depth (hin _ _ lk) rfl S.co S.gen rfl (PySem.W.codeRec_of hin hcd) (hb _ _ _ _ ?_)
  refine wpAny_newFunctionEnv_cells S.kind (fun y hy => ?_) fun env he s1 ic => ?_
  · rcases S.par y.1 (List.of_mem_zip hy).1 with z | z
    · exact .inl z
    · exact .inr ⟨z, PySem.W.cellsFrom_some _ _ _ (.inl z)⟩
  · subst he
    refine ⟨hlim.keeps ic.toInCall.keep, codeAny_func ?_⟩
    obtain ⟨t, ht, hq⟩ := body cdv A outer s H vs Q (hr.deeper _) hg hsp
    have I0 : Inv (cxOf CX0 P w K mg base N qual (defScope st) f cdv A outer s H E0) [] (L2.start N vs) H s1 := inv_start S hr.hd e0 hl rv ic
    refine wpAny_mono (ht.nox.run [] s1 (L2.start N vs) H _ I0 hq) (fun fl s' hs => ?_) fun e s' hs => hs
    cases fl with
    | next =>
      obtain ⟨σ', H', J, q⟩ := hs
      exact ⟨.non, H', J.os, J.bare, J.base, J.hok, rfl, q⟩
    | ret u =>
      obtain ⟨v, σ', H', J, rv', q⟩ := hs
      exact ⟨v, H', J.os, J.bare, J.base, J.hok, rv', q⟩
    | brk => obtain ⟨_, _, _, q⟩ := hs; exact False.elim q
    | cont => obtain ⟨_, _, _, q⟩ := hs; exact False.elim q
theorem start_ok {g : Gd} {F r : List Addr} {H : Hp} {ds : List D} {vs : List V} {N : List Str} (R : RepL g F r H ds vs) : EnOk g F r H (startE N.length ds) (L2.start N vs) := by
  have hl := R.length
  refine ⟨by simp [startE, L2.start, hl], fun i d h => ?_⟩
  unfold startE at h
  by_cases hi : i < ds.length
  · rw [List.getElem?_append_left (by simpa using hi), List.getElem?_map] at h
    obtain ⟨d', h1, h2⟩ := map_some h
    cases h2
    obtain ⟨v, h3, h4⟩ := R.get h1
    refine ⟨v, ?_, h4⟩
    unfold L2.start
    rw [List.getElem?_append_left (by simp; omega), List.getElem?_map, h3]; rfl
  · rw [List.getElem?_append_right (by simpa using hi), List.getElem?_replicate] at h
    split at h <;> cases h
/-- one def's body by its code -/
theorem fnG_code {W : Nat} {T : CT} {cl : Nat → List D → Mem → Option (D × Mem)} {x qual : Str} {st : Stmt} {f : Addr} {fd : FuncData} {ps : List Str} {k n : Nat} {code : List Sm} (G : GlobP P w K mg base ca dk T.tb cl k) (Fn : Fun K x qual st f fd) (S : FnScope T.N ps (defScope st))
    (hc : mapO (compS T n (defScope st)) (defBody st) = some code) :
    FnG P w K mg base (k + 1) f fd ps (spG ⟨K, ca, dk⟩ ps.length fun ds M => outR (exs W cl code (startE T.N.length ds) M)) := by
  refine fnG_of Fn S (fun vs H Q h => ?_) fun cdv A outer s H vs Q hr hg h => ?_
  · obtain ⟨F, r, M, ds, d, M', hl, _, R, _⟩ := h
    rw [← R.length, hl]
  · obtain ⟨F, r, M, ds, d, M', hl, So, R, hm, q⟩ := h
    have sn : Sn (cxOf CX0 P w K mg base T.N qual (defScope st) f cdv A outer s H E0).nox ca dk T cl k (defScope st) (defScope st) :=
      ⟨rfl, rfl, rfl, S.nd, hg, hr, fun y hy => ⟨loc_of hy, .inl rfl⟩, G⟩
    refine ⟨_, dss_map (W := W) (fun st' _ c hc' => compS_ok sn S.kind rfl n st' c hc') hc, ?_⟩
    dsimp only at hm
    unfold outR at hm
    split at hm
    · rename_i e1 M1 he
      cases hm
      exact ⟨F, r, startE T.N.length ds, M, .nx, e1, M', start_ok R, So, he, fun r' σ' H' x' S' E' _ => q r' _ H' x' S' (by simp [Rep])⟩
    · rename_i d1 e1 M1 he
      cases hm
      exact ⟨F, r, startE T.N.length ds, M, .rt d, e1, M', start_ok R, So, he, fun r' σ' H' x' S' E' _ v Rv => q r' v H' x' S' Rv⟩
    · cases hm
theorem FnG.mono {k j : Nat} {f : Addr} {fd : FuncData} {ps : List Str} {sp : List V → Hp → VK → Prop} (h : FnG P w K mg base j f fd ps sp) (hk : j ≤ k) : FnG P w K mg base k f fd ps sp :=
  ⟨h.len, fun A outer s H args us vs Q hr => h.run A outer s H args us vs Q (hr.mono hk)⟩
theorem FnG.imp {k : Nat} {f : Addr} {fd : FuncData} {ps : List Str} {sp sp' : List V → Hp → VK → Prop} (h : FnG P w K mg base k f fd ps sp) (i : ∀ vs H Q, sp' vs H Q → sp vs H Q) : FnG P w K mg base k f fd ps sp' :=
  ⟨fun vs H Q q => h.len vs H Q (i _ _ _ q), fun A outer s H args us vs Q hr hg e0 hb rv hs => h.run A outer s H args us vs Q hr hg e0 hb rv (i _ _ _ hs)⟩
/-- a def of the text that lies in the written part -/
structure DefOk (K : PySem.W.Frag) (mg : Str → Option Value) (tb : List (Str × Gt)) (mu : List (Nat × Nat)) (d : Fd) : Prop where
  ex : ∃ (f : Addr) (fd : FuncData) (st : Stmt) (qual : Str) (n : Nat), mg d.name = some (.ref f) ∧ Fun K d.name qual st f fd ∧ FnScope d.N d.ps (defScope st) ∧ Binds K fd d.ps [] ∧ mapO (compS ⟨d.N, tb, mu⟩ n (defScope st)) (defBody st) = some d.code
/-- all defs, at every depth -/
theorem all_ok {W : Nat} {defs : List Fd} {tb : List (Str × Gt)} {mu : List (Nat × Nat)} (hd : ∀ d ∈ defs, DefOk K mg tb mu d)
    (ht : ∀ x i ps, tb.lookup x = some (.fn i ps) → ∃ d, defs[i]? = some d ∧ d.name = x ∧ d.ps = ps)
    (hc : ∀ x d, tb.lookup x = some (.cst d) → ∃ u v, mg x = some u ∧ RelV v u ∧ ∀ F r H, Rep ⟨K, ca, dk⟩ F r H d v) (hb : ∀ x ∈ bnames, mg x = none) :
    ∀ n, GlobP P w K mg base ca dk tb (evalFn W defs n) (2 * n)
  | 0 => by
    refine ⟨fun x i ps h => ?_, hc, hb⟩
    obtain ⟨d, h1, rfl, rfl⟩ := ht x i ps h
    obtain ⟨f, fd, st, qual, m, g1, g2, g3, g4, g5⟩ := (hd d (List.mem_of_getElem? h1)).ex
    refine ⟨f, fd, g1, g2.kp, ⟨fun vs H Q z => ?_, fun A outer s H args us vs Q hr hg e0 hb rv z => ?_⟩, g4⟩
    · obtain ⟨_, _, _, _, _, _, _, _, _, z, _⟩ := z
      cases z
    · obtain ⟨_, _, _, _, _, _, _, _, _, z, _⟩ := z
      cases z
  | n + 1 => by
    have ih := all_ok (W := W) hd ht hc hb n
    refine ⟨fun x i ps h => ?_, hc, hb⟩
    obtain ⟨d, h1, rfl, rfl⟩ := ht x i ps h
    obtain ⟨f, fd, st, qual, m, g1, g2, g3, g4, g5⟩ := (hd d (List.mem_of_getElem? h1)).ex
    have base0 : FnG P w K mg base (2 * n + 1) f fd d.ps (spG ⟨K, ca, dk⟩ d.ps.length (runB W (evalFn W defs n) d)) := fnG_code (T := ⟨d.N, tb, mu⟩) ih g2 g3 g5
    refine ⟨f, fd, g1, g2.kp, (base0.mono (k := 2 * (n + 1)) (by omega)).imp fun vs H Q z => ?_, g4⟩
    obtain ⟨F, r, M, ds, d', M', hl, S, R, hm, q⟩ := z
    simp only [evalFn, h1] at hm
    rw [if_pos hl] at hm
    by_cases hp : d.pure = true
    · rw [if_pos hp] at hm
      exact spG_pure ⟨F, r, M, ds, d', M', hl, S, R, hm, q⟩
    · rw [if_neg hp] at hm
      exact ⟨F, r, M, ds, d', M', hl, S, R, hm, q⟩
end
end Wf
set_option Elab.async false
set_option linter.all false
set_option maxRecDepth 100000
set_option maxHeartbeats 4000000
namespace Wf
open PySem PySem.Spec PyProof.Rows L2
/-- the law's def called on the script: H0 tracks at most the script -/
theorem law_core {P : Program} {w : World} {K : PySem.W.Frag} {mg mb : Str → Option Value} {k : Nat} {fa a : Addr} {fd : FuncData} {x : Str} {sp : List V → Hp → VK → Prop} {s1 : Shared} {vs : List Value} {H0 : Hp}
    (KX : K.In s1.heap) (hns : s1.heap.Ns mainGlobals mg) (hb : s1.heap.Ns builtinsNs mb) (hbb : ∀ x : Str, x ≠ "__name__" → mb x = bootBuiltins x) (hlim : s1.heap.NoLimit) (hg : s1.gens = #[])
    (ha : s1.heap.get? a = some { cls := .type "list", data := .seq vs.toArray }) (hr : Room k callerA)
    (F : ∀ base : Heap, K.In base → base.Ns mainGlobals mg → FnG P w K mg base k fa fd [x] sp) (hbind : ∀ (s : Shared) (u : Value), BindsTo s fd ⟨[u], []⟩ [(x, u)])
    (hfrz : ∀ b o, H0 b = some o → ∃ ob xs, o = .frz ob (.lst xs)) (hok : HOk P w H0 s1.heap) (hA : ∀ b, H0 b ≠ none → b = a) (hK : H0 a ≠ none → K.lookup a = none) (hsp : sp [.ref a] H0 fun v _ => v = .bl true) :
    codeAny (model P w) callerA (.call (.ref fa) ⟨[.ref a], []⟩) (fun r s' => r = .ok (.ret (.bool true)) ∧ OldK s1.heap s'.heap ∧ s'.os = s1.os ∧ AllBare s'.gens) s1 := by
  have free : ∀ {b o}, b ≠ a → s1.heap.get? b = some o → H0 b = none := fun {b o} hb _ => by
    cases q : H0 b with
    | none => rfl
    | some u => exact absurd (hA b (by rw [q]; simp)) hb
  have keepK : ∀ {b o}, K.lookup b = some o → H0 b = none := fun {b o} e => by
    cases q : H0 b with
    | none => rfl
    | some u =>
      have := hA b (by rw [q]; simp)
      subst this
      rw [hK (by rw [q]; simp)] at e; cases e
  have nsFree : ∀ {b m}, s1.heap.Ns b m → H0 b = none := fun {b m} n => by
    obtain ⟨o, es, ep, e, d, _⟩ := n
    refine free (fun z => ?_) e
    rw [z, ha] at e
    cases e
    have d' : Data.seq vs.toArray _ = Data.dict es ep := d
    cases d'
  have nsK : ∀ {b m}, s1.heap.Ns b m → (hidT s1.heap H0).Ns b m := fun {b m} n => by
    have hb := nsFree n
    obtain ⟨o, es, ep, e, d, c⟩ := n
    exact ⟨o, es, ep, hidT_get e hb, d, c⟩
  have kin : K.In (hidT s1.heap H0) := fun b o e => hidT_get (KX b o e) (keepK e)
  have lim' : (hidT s1.heap H0).NoLimit := by
    obtain ⟨mc, h1, h2⟩ := hlim
    exact ⟨mc, nsK h1, h2⟩
  have e0 : Env0 P w K mg (hidT s1.heap H0) callerA [] s1 H0 :=
    ⟨rfl, ⟨kin, nsK hns, ⟨mb, nsK hb, hbb⟩, lim'⟩, fun b o e => of_hidT e, Nat.le_of_eq (hidT_size _ _), trivial, (fun b z => by simp [frs] at z), hok, .of_eq hg⟩
  refine codeAny_mono ((F _ kin (nsK hns)).run callerA [] s1 H0 ⟨[.ref a], []⟩ [.ref a] [.ref a] _ hr rfl e0 (hbind s1 (.ref a)) (.cons rfl .nil) hsp) fun res s2 hq => ?_
  cases res with
  | error _ => exact False.elim hq
  | ok fl =>
    cases fl with
    | next => exact False.elim hq
    | brk => exact False.elim hq
    | cont => exact False.elim hq
    | ret u =>
      obtain ⟨v, H2, os, bare, un, hok2, rv, ev⟩ := hq
      have ev : v = .bl true := ev
      subst ev
      obtain rfl : u = Value.bool true := rv
      refine ⟨rfl, OldK.of_keep fun b o e => ?_, os, bare⟩
      cases q : H0 b with
      | none => exact un.keep b o e q (by simp [frs]) (by simp)
      | some u =>
        obtain ⟨ob, xs, rfl⟩ := hfrz b u q
        obtain ⟨e1, _⟩ := hok b _ q
        obtain ⟨e2, _⟩ := hok2 b _ (un.frzs b ob _ q)
        rw [e] at e1
        cases e1
        exact e2
theorem law_walk {l : PySem.W.OpenLaw} {n k : Nat} {q : Program} {loose : List Str} {XP : (Str → Option Value) → Heap → Prop} {YP : World → Heap → Prop} {d : DefRec} {K : Params → PySem.W.Frag} {x : Str} {m : List D → Mem → Option (D × Mem)} {ca : World → Nat → Addr} {dk : World → Obj → List (V × V) → Prop}
    (hn : l.most = some n) (hn2 : n ≤ sizeLine) (hdf : d.params.defaults = []) (hr : Room k callerA) (hY : ∀ (w : World) (h : Heap), YP w h → (K w.params).In h)
    (F : ∀ (w : World) (mg : Str → Option Value) (fa : Addr) (h : Heap), (K w.params).In h → h.Ns mainGlobals mg → mg d.name = some (.ref fa) →
      ∃ fd : FuncData, (∀ (s : Shared) (u : Value), BindsTo s fd ⟨[u], []⟩ [(x, u)]) ∧ ∀ base : Heap, (K w.params).In base → base.Ns mainGlobals mg → FnG l.prog w (K w.params) mg base k fa fd [x] (spG ⟨K w.params, ca w, dk w⟩ 1 m))
    (hm : ∀ ns : List Int, ns.length ≤ n → ∃ M', m [.scr (ns.map .int)] [] = some (.bl true, M')) : PySem.W.WalkO q loose XP YP l.row.toRowW d [] (fun f vs => PySem.call f vs) := by
  refine Att.attach_call hn hdf fun w s₀ s1 mg mb fa o pm cd doc a vs ns G Y ho hd hcd hmg hobj hints hlen hg => ?_
  have KX := hY w _ Y
  obtain ⟨fd, hb, hF⟩ := F w mg fa _ KX G.T.g hmg
  have rv := vals_ints hints
  have lv : ns.length = vs.length := by simpa using rv.length
  obtain ⟨M', hM⟩ := hm ns hlen
  have sp : ∀ H0 : Hp, ScrAt (K w.params) H0 a (ns.map V.int) → spG ⟨K w.params, ca w, dk w⟩ 1 m [.ref a] H0 fun v _ => v = .bl true := fun H0 hs =>
    ⟨[], [], [], [.scr (ns.map .int)], .bl true, M', rfl, ⟨rfl, by simp, by simp, by simp, fun _ _ _ z => by simp at z⟩, repL_cons (by simp only [Rep]; exact ⟨a, _, rfl, hs, repL_ints ns⟩) repL_nil, hM, fun r' v H' _ _ R => by simpa [Rep] using R⟩
  cases hk : (K w.params).lookup a with
  | some oa =>
    have e := KX a oa hk
    rw [hobj] at e
    cases e
    refine law_core (H0 := fun _ => none) KX G.T.g G.T.b G.T.builtins G.T.nolimit hg hobj hr hF hb (fun _ _ z => by cases z) (fun _ _ z => by cases z) (fun b z => absurd rfl z) (fun z => absurd rfl z) (sp _ (.inr fun H' => .inr ⟨_, vs.toArray, _, hk, rfl, rfl, rfl, ?_, by simpa using rv⟩))
    rw [List.size_toArray, ← lv]; omega
  | none =>
    have at_ : ∀ {b : Addr} {o : HO}, (if b = a then some (HO.frz { cls := .type "list", data := .seq vs.toArray } (.lst (ns.map V.int))) else none) = some o → b = a ∧ o = .frz { cls := .type "list", data := .seq vs.toArray } (.lst (ns.map V.int)) := fun {b o} z => by
      split at z
      · cases z; exact ⟨by assumption, rfl⟩
      · cases z
    refine law_core (H0 := fun b => if b = a then some (.frz { cls := .type "list", data := .seq vs.toArray } (.lst (ns.map V.int))) else none) KX G.T.g G.T.b G.T.builtins G.T.nolimit hg hobj hr hF hb (fun b o z => ⟨_, _, (at_ z).2⟩) (fun b o z => ?_) (fun b z => ?_) (fun _ => hk) (sp _ (.inl ⟨{ cls := .type "list", data := .seq vs.toArray }, if_pos rfl⟩))
    · obtain ⟨rfl, rfl⟩ := at_ z
      exact ⟨hobj, by rw [List.length_map]; omega, vs, _, rv, hobj⟩
    · by_cases e : b = a
      · exact e
      · exact absurd (if_neg e) z
end Wf
set_option Elab.async false
set_option linter.all false
set_option maxRecDepth 100000
set_option maxHeartbeats 4000000
namespace Wf
open PySem PySem.Spec PyProof.Rows L2
def tbChk (defs : List Fd) (tb : List (Str × Gt)) : Bool := tb.all fun p => match p.2 with
  | .fn i ps => match defs[i]? with
    | some d => decide (d.name = p.1) && decide (d.ps = ps)
    | none => false
  | .cst _ => true
theorem mem_of_lookup {β : Type} : ∀ {tb : List (Str × β)} {x : Str} {b : β}, tb.lookup x = some b → (x, b) ∈ tb
  | [], _, _, h => by simp at h
  | (y, c) :: tb, x, b, h => by
    rw [List.lookup_cons] at h
    split at h
    · rename_i e
      cases h
      rw [eq_of_beq e]
      exact .head _
    · exact .tail _ (mem_of_lookup h)
theorem ht_of {defs : List Fd} {tb : List (Str × Gt)} (h : tbChk defs tb = true) : ∀ x i ps, tb.lookup x = some (.fn i ps) → ∃ d, defs[i]? = some d ∧ d.name = x ∧ d.ps = ps := fun x i ps e => by
  have := List.all_eq_true.mp h _ (mem_of_lookup e)
  dsimp only at this
  split at this
  · rename_i d hd
    simp only [Bool.and_eq_true, decide_eq_true_eq] at this
    exact ⟨d, hd, this.1, this.2⟩
  · cases this
def strCst (tb : List (Str × Gt)) : List (Str × Option Str) := tb.filterMap fun p => match p.2 with
  | .cst (.str s) => some (p.1, some s)
  | .cst _ => some (p.1, none)
  | _ => none
section
variable {P : Program} {w : World} {K : PySem.W.Frag} {mg : Str → Option Value} {base : Heap} {ca : Nat → Addr} {dk : Obj → List (V × V) → Prop}
theorem hc_of {tb : List (Str × Gt)} (h : ∀ x s, (x, s) ∈ strCst tb → ∃ t k, s = some t ∧ mg x = some (.str t k)) : ∀ x d, tb.lookup x = some (.cst d) → ∃ u v, mg x = some u ∧ RelV v u ∧ ∀ F r H, Rep ⟨K, ca, dk⟩ F r H d v := fun x d e => by
  have m := mem_of_lookup e
  by_cases hs : ∃ s, d = .str s
  · obtain ⟨s, rfl⟩ := hs
    obtain ⟨t, k, e1, e2⟩ := h x (some s) (List.mem_filterMap.mpr ⟨_, m, rfl⟩)
    cases e1
    exact ⟨_, .str s, e2, ⟨k, rfl⟩, fun F r H => by simp [Rep]⟩
  · obtain ⟨t, _, e1, _⟩ := h x none (List.mem_filterMap.mpr ⟨_, m, by cases d <;> first | rfl | (exact absurd ⟨_, rfl⟩ hs)⟩)
    cases e1
theorem defOk {d : Fd} {tb : List (Str × Gt)} {mu : List (Nat × Nat)} {f : Addr} {fd : FuncData} {st : Stmt} {n : Nat} (hm : mg d.name = some (.ref f)) (F : Fun K d.name d.name st f fd) (S : FnScope d.N d.ps (defScope st)) (B : Binds K fd d.ps [])
    (h : mapO (compS ⟨d.N, tb, mu⟩ n (defScope st)) (defBody st) = some d.code) : DefOk K mg tb mu d := ⟨f, fd, st, d.name, n, hm, F, S, B, h⟩
theorem law_of {W n i : Nat} {defs : List Fd} {d : Fd} {tb : List (Str × Gt)} {mu : List (Nat × Nat)} {x qual : Str} {f : Addr} {fd : FuncData} {st : Stmt} {m : Nat} (ih : GlobP P w K mg base ca dk tb (evalFn W defs n) (2 * n)) (F : Fun K x qual st f fd) (S : FnScope d.N d.ps (defScope st))
    (h : mapO (compS ⟨d.N, tb, mu⟩ m (defScope st)) (defBody st) = some d.code) (hd : defs[i]? = some d) (hp : d.pure = false) : FnG P w K mg base (2 * n + 1) f fd d.ps (spG ⟨K, ca, dk⟩ d.ps.length (evalFn W defs (n + 1) i)) := by
  refine (fnG_code (W := W) (T := ⟨d.N, tb, mu⟩) ih F S h).imp fun vs H Q z => ?_
  obtain ⟨F, r, M, ds, d', M', hl, S, R, hm, q⟩ := z
  simp only [evalFn, hd] at hm
  rw [if_pos hl, if_neg (by rw [hp]; exact Bool.false_ne_true)] at hm
  exact ⟨F, r, M, ds, d', M', hl, S, R, hm, q⟩
end
end Wf
set_option Elab.async false
set_option linter.all false
set_option maxRecDepth 100000
set_option maxHeartbeats 4000000
namespace Wf
open PySem PySem.Spec PyProof.Rows L2

mutual
theorem fzG_lf (k : Nat → Option D) : ∀ d : D, lf d = true → fzG k d = some d
  | .non, _ => rfl
  | .bl _, _ => rfl
  | .int _, _ => rfl
  | .str _, _ => rfl
  | .opq, _ => rfl
  | .tup xs, h => by simp only [lf] at h; simp only [fzG, fzL_lf k xs h, Option.map_some]
  | .lst xs, h => by simp only [lf] at h; simp only [fzG, fzL_lf k xs h, Option.map_some]
  | .scr xs, h => by simp only [lf] at h; simp only [fzG, fzL_lf k xs h, Option.map_some]
  | .sdc ks xs, h => by simp only [lf] at h; simp only [fzG, fzL_lf k xs h, Option.map_some]
  | .dct ks xs, h => by simp only [lf, Bool.and_eq_true] at h; simp only [fzG, fzL_lf k ks h.1, fzL_lf k xs h.2, Option.map_some, Option.bind_some]
  | .ins c ns xs, h => by simp only [lf] at h; simp only [fzG, fzL_lf k xs h, Option.map_some]
  | .loc _, h => by simp [lf] at h
theorem fzL_lf (k : Nat → Option D) : ∀ ds : List D, lfL ds = true → fzL k ds = some ds
  | [], _ => rfl
  | d :: ds, h => by
    simp only [lfL, Bool.and_eq_true] at h
    simp only [fzL, fzG_lf k d h.1, fzL_lf k ds h.2, Option.bind_some, Option.map_some]
end
theorem fz_lf {M : Mem} {d : D} (h : lf d = true) : fz M d = some d := fzG_lf _ d h
theorem lfL_all : ∀ {ds : List D}, (∀ d ∈ ds, lf d = true) → lfL ds = true
  | [], _ => rfl
  | d :: ds, h => by simp only [lfL, h d (.head _), lfL_all fun x hx => h x (.tail _ hx), Bool.and_self]
theorem lfL_map {α : Type} {f : α → D} {xs : List α} (h : ∀ a ∈ xs, lf (f a) = true) : lfL (xs.map f) = true := lfL_all fun d hd => by
  obtain ⟨a, ha, rfl⟩ := List.mem_map.mp hd
  exact h a ha
theorem lfL_ints (xs : List Int) : lfL (xs.map .int) = true := lfL_map fun _ _ => rfl
theorem lfL_append : ∀ {xs ys : List D}, lfL (xs ++ ys) = (lfL xs && lfL ys)
  | [], ys => by simp [lfL]
  | x :: xs, ys => by simp only [List.cons_append, lfL, lfL_append, Bool.and_assoc]
def tZ (xs : List Int) : D := .tup (xs.map .int)
@[simp] theorem lf_tZ (xs : List Int) : lf (tZ xs) = true := by simp only [tZ, lf, lfL_ints]
theorem fz_loc_lst {M : Mem} {n : Nat} {xs : List D} (h : M[n]? = some (.lst xs)) (l : lfL xs = true) : fz M (.loc n) = some (.lst xs) := by
  simp only [fz, fzG, fzN, h, fzL_lf _ xs l, Option.map_some]
theorem fz_loc_sdc {M : Mem} {n : Nat} {ks : List Str} {xs : List D} (h : M[n]? = some (.sdc ks xs)) (l : lfL xs = true) : fz M (.loc n) = some (.sdc ks xs) := by
  simp only [fz, fzG, fzN, h, fzL_lf _ xs l, Option.map_some]

section
variable {W n i : Nat} {defs : List Fd} {f : Fd} {ds : List D} {M M1 : Mem} {d d' : D}
theorem call_pure (hd : defs[i]? = some f) (hp : f.pure = true) (hl : ds.length = f.ps.length) (hf : lfL ds = true) (h : runB W (evalFn W defs n) f ds [] = some (d, M1)) (hz : fz M1 d = some d') : evalFn W defs (n + 1) i ds M = some (d', M) := by
  simp only [evalFn, hd, hp, hl, hf, h, hz, if_true, Option.bind_some, Option.map_some]
theorem call_own (hd : defs[i]? = some f) (hp : f.pure = false) (hl : ds.length = f.ps.length) : evalFn W defs (n + 1) i ds M = runB W (evalFn W defs n) f ds M := by
  simp only [evalFn, hd, hp, hl, if_true, Bool.false_eq_true, if_false]
end

section
variable {α : Type} {xs : List α} {F : α → D} {t : D → Envi → Option Envi} {c : Envi → Mem → Option (Bool × Mem)} {b : Envi → Mem → Option (D × Mem)} {e : Envi} {M : Mem}
theorem lcN_fm_go (p : α → Bool) (g : α → D) (h : ∀ a ∈ xs, ∃ e1, t (F a) e = some e1 ∧ c e1 M = some (p a, M) ∧ (p a = true → b e1 M = some (g a, M))) :
    ∀ (W i : Nat) (acc : List D), acc.length + (xs.length - i) ≤ sizeLine → xs.length - i < W → lcN (.fix (xs.map F)) t c b e W i acc M = some (acc ++ ((xs.drop i).filter p).map g, M)
  | 0, _, _, _, hw => by omega
  | W + 1, i, acc, hs, hw => by
    simp only [lcN, Src.at, List.getElem?_map]
    cases hx : xs[i]? with
    | none =>
      have : xs.length ≤ i := List.getElem?_eq_none_iff.mp hx
      simp [List.drop_eq_nil_of_le this]
    | some d =>
      have hi : i < xs.length := (List.getElem?_eq_some_iff.mp hx).1
      obtain ⟨e1, h1, h2, h3⟩ := h d (List.mem_of_getElem? hx)
      have hdr : xs.drop i = d :: xs.drop (i + 1) := by
        rw [List.drop_eq_getElem_cons hi]
        rw [(List.getElem?_eq_some_iff.mp hx).2]
      simp only [Option.map_some, h1, h2]
      cases hp : p d with
      | false =>
        simp only [hp]
        rw [lcN_fm_go p g h W (i + 1) acc (by omega) (by omega), hdr, List.filter_cons_of_neg (by rw [hp]; exact Bool.false_ne_true)]
      | true =>
        simp only [hp, h3 hp]
        rw [if_pos (by omega), lcN_fm_go p g h W (i + 1) (acc ++ [g d]) (by simp; omega) (by omega), hdr, List.filter_cons_of_pos hp]
        simp
theorem lcN_fm {W : Nat} (p : α → Bool) (g : α → D) (h : ∀ a ∈ xs, ∃ e1, t (F a) e = some e1 ∧ c e1 M = some (p a, M) ∧ (p a = true → b e1 M = some (g a, M))) (hs : xs.length ≤ sizeLine) (hw : xs.length < W) :
    lcN (.fix (xs.map F)) t c b e W 0 [] M = some ((xs.filter p).map g, M) := by
  rw [lcN_fm_go p g h W 0 [] (by simpa using hs) (by simpa using hw)]
  simp
theorem lcN_map {W : Nat} (g : α → D) (h : ∀ a ∈ xs, ∃ e1, t (F a) e = some e1 ∧ b e1 M = some (g a, M)) (hs : xs.length ≤ sizeLine) (hw : xs.length < W) :
    lcN (.fix (xs.map F)) t (fun _ M => some (true, M)) b e W 0 [] M = some (xs.map g, M) := by
  rw [lcN_fm (fun _ => true) g (fun d hd => by
    obtain ⟨e1, h1, h2⟩ := h d hd
    exact ⟨e1, h1, rfl, fun _ => h2⟩) hs hw, List.filter_eq_self.mpr (fun _ _ => rfl)]
end
section
variable {ds : List D} {t : D → Envi → Option Envi} {c : Envi → Mem → Option (Bool × Mem)} {b : Envi → Mem → Option (D × Mem)} {e : Envi} {M : Mem}
/-- .. whose parts change the store -/
theorem lcN_st_go {P : Nat → List D → Mem → Prop} (h : ∀ i acc M d, ds[i]? = some d → acc.length ≤ i → P i acc M → ∃ e1, t d e = some e1 ∧ ∃ b1 M1, c e1 M = some (b1, M1) ∧ (b1 = false → P (i + 1) acc M1) ∧ (b1 = true → ∃ y M2, b e1 M1 = some (y, M2) ∧ P (i + 1) (acc ++ [y]) M2)) (hs : ds.length ≤ sizeLine) :
    ∀ (W i : Nat) (acc : List D) (M : Mem), i ≤ ds.length → acc.length ≤ i → ds.length - i < W → P i acc M → ∃ acc' M', lcN (.fix ds) t c b e W i acc M = some (acc', M') ∧ P ds.length acc' M' ∧ acc'.length ≤ ds.length
  | 0, _, _, _, _, _, hw, _ => by omega
  | W + 1, i, acc, M, hi, ha, hw, hP => by
    simp only [lcN, Src.at]
    cases hx : ds[i]? with
    | none =>
      have : ds.length ≤ i := List.getElem?_eq_none_iff.mp hx
      have : i = ds.length := by omega
      subst this
      exact ⟨acc, M, rfl, hP, ha⟩
    | some d =>
      have hi : i < ds.length := (List.getElem?_eq_some_iff.mp hx).1
      obtain ⟨e1, h1, b1, M1, h2, h3, h4⟩ := h i acc M d hx ha hP
      simp only [h1, h2]
      cases b1 with
      | false => exact lcN_st_go h hs W (i + 1) acc M1 (by omega) (by omega) (by omega) (h3 rfl)
      | true =>
        obtain ⟨y, M2, h5, h6⟩ := h4 rfl
        simp only [h5]
        rw [if_pos (by omega)]
        exact lcN_st_go h hs W (i + 1) (acc ++ [y]) M2 (by omega) (by simp; omega) (by omega) h6
theorem lcN_st {W : Nat} (P : Nat → List D → Mem → Prop) (h0 : P 0 [] M) (h : ∀ i acc M d, ds[i]? = some d → acc.length ≤ i → P i acc M → ∃ e1, t d e = some e1 ∧ ∃ b1 M1, c e1 M = some (b1, M1) ∧ (b1 = false → P (i + 1) acc M1) ∧ (b1 = true → ∃ y M2, b e1 M1 = some (y, M2) ∧ P (i + 1) (acc ++ [y]) M2)) (hs : ds.length ≤ sizeLine) (hw : ds.length < W) :
    ∃ acc' M', lcN (.fix ds) t c b e W 0 [] M = some (acc', M') ∧ P ds.length acc' M' ∧ acc'.length ≤ ds.length := lcN_st_go h hs W 0 [] M (Nat.zero_le _) (Nat.le_refl _) (by omega) h0
end
section
variable {ds : List D} {t : D → Envi → Option Envi} {b : Envi → Mem → Rr} {e : Envi} {M : Mem}
theorem forN_st_go {P : Nat → Envi → Mem → Prop} {R : D → Envi → Mem → Prop} (h : ∀ i e M d, ds[i]? = some d → P i e M → ∃ e1, t d e = some e1 ∧ ((∃ e2 M2, b e1 M = some (.nx, e2, M2) ∧ P (i + 1) e2 M2) ∨ ∃ u e2 M2, b e1 M = some (.rt u, e2, M2) ∧ R u e2 M2)) :
    ∀ (W i : Nat) (e : Envi) (M : Mem), i ≤ ds.length → ds.length - i < W → P i e M → (∃ e2 M2, forN (.fix ds) t b W i e M = some (.nx, e2, M2) ∧ P ds.length e2 M2) ∨ ∃ u e2 M2, forN (.fix ds) t b W i e M = some (.rt u, e2, M2) ∧ R u e2 M2
  | 0, _, _, _, _, hw, _ => by omega
  | W + 1, i, e, M, hi, hw, hP => by
    simp only [forN, Src.at]
    cases hx : ds[i]? with
    | none =>
      have : ds.length ≤ i := List.getElem?_eq_none_iff.mp hx
      have : i = ds.length := by omega
      subst this
      exact .inl ⟨e, M, rfl, hP⟩
    | some d =>
      have hi : i < ds.length := (List.getElem?_eq_some_iff.mp hx).1
      obtain ⟨e1, h1, h2⟩ := h i e M d hx hP
      simp only [h1]
      rcases h2 with ⟨e2, M2, h2, h3⟩ | ⟨u, e2, M2, h2, h3⟩
      · simp only [h2]
        exact forN_st_go h W (i + 1) e2 M2 (by omega) (by omega) h3
      · simp only [h2]
        exact .inr ⟨u, e2, M2, rfl, h3⟩
theorem forN_st {W : Nat} (P : Nat → Envi → Mem → Prop) (R : D → Envi → Mem → Prop) (h0 : P 0 e M) (h : ∀ i e M d, ds[i]? = some d → P i e M → ∃ e1, t d e = some e1 ∧ ((∃ e2 M2, b e1 M = some (.nx, e2, M2) ∧ P (i + 1) e2 M2) ∨ ∃ u e2 M2, b e1 M = some (.rt u, e2, M2) ∧ R u e2 M2)) (hw : ds.length < W) :
    (∃ e2 M2, forN (.fix ds) t b W 0 e M = some (.nx, e2, M2) ∧ P ds.length e2 M2) ∨ ∃ u e2 M2, forN (.fix ds) t b W 0 e M = some (.rt u, e2, M2) ∧ R u e2 M2 := forN_st_go h W 0 e M (Nat.zero_le _) (by omega) h0
/-- .. that never returns -/
theorem forN_nx {W : Nat} (P : Nat → Envi → Mem → Prop) (h0 : P 0 e M) (h : ∀ i e M d, ds[i]? = some d → P i e M → ∃ e1, t d e = some e1 ∧ ∃ e2 M2, b e1 M = some (.nx, e2, M2) ∧ P (i + 1) e2 M2) (hw : ds.length < W) :
    ∃ e2 M2, forN (.fix ds) t b W 0 e M = some (.nx, e2, M2) ∧ P ds.length e2 M2 := by
  rcases forN_st P (fun _ _ _ => False) h0 (fun i e M d hx hP => by
    obtain ⟨e1, h1, h2⟩ := h i e M d hx hP
    exact ⟨e1, h1, .inl h2⟩) hw with z | ⟨_, _, _, _, z⟩
  · exact z
  · exact z.elim
end
section
variable {α : Type} {xs : List α} {F : α → D} {t : D → Envi → Option Envi} {b : Envi → Mem → Rr} {e : Envi} {M : Mem}
/-- the first that fits -/
def foundR (r : α → D) (o : Option α) (e2 : Envi) (M : Mem) : Rr := match o with
  | some a => some (.rt (r a), e2, M)
  | none => some (.nx, e2, M)
theorem forN_find_go {I : Envi → Prop} (p : α → Bool) (r : α → D) (h : ∀ a ∈ xs, ∀ e, I e → ∃ e1, t (F a) e = some e1 ∧ (p a = true → ∃ e2, b e1 M = some (.rt (r a), e2, M)) ∧ (p a = false → ∃ e2, b e1 M = some (.nx, e2, M) ∧ I e2)) :
    ∀ (W i : Nat) (e : Envi), xs.length - i < W → I e → ∃ e2, forN (.fix (xs.map F)) t b W i e M = foundR r ((xs.drop i).find? p) e2 M ∧ ((xs.drop i).find? p = none → I e2)
  | 0, _, _, hw, _ => by omega
  | W + 1, i, e, hw, hI => by
    simp only [forN, Src.at, List.getElem?_map]
    cases hx : xs[i]? with
    | none =>
      have : xs.length ≤ i := List.getElem?_eq_none_iff.mp hx
      rw [List.drop_eq_nil_of_le this]
      exact ⟨e, rfl, fun _ => hI⟩
    | some d =>
      have hi : i < xs.length := (List.getElem?_eq_some_iff.mp hx).1
      have hdr : xs.drop i = d :: xs.drop (i + 1) := by
        rw [List.drop_eq_getElem_cons hi]
        rw [(List.getElem?_eq_some_iff.mp hx).2]
      obtain ⟨e1, h1, h2, h3⟩ := h d (List.mem_of_getElem? hx) e hI
      simp only [Option.map_some, h1]
      rw [hdr]
      cases hp : p d with
      | true =>
        obtain ⟨e2, h4⟩ := h2 hp
        rw [List.find?_cons_of_pos hp]
        exact ⟨e2, by simp only [h4]; rfl, (by intro z; cases z)⟩
      | false =>
        obtain ⟨e2, h4, h5⟩ := h3 hp
        rw [List.find?_cons_of_neg (by rw [hp]; exact Bool.false_ne_true)]
        simp only [h4]
        exact forN_find_go p r h W (i + 1) e2 (by omega) h5
theorem forN_find {W : Nat} {I : Envi → Prop} (p : α → Bool) (r : α → D) (h0 : I e) (h : ∀ a ∈ xs, ∀ e, I e → ∃ e1, t (F a) e = some e1 ∧ (p a = true → ∃ e2, b e1 M = some (.rt (r a), e2, M)) ∧ (p a = false → ∃ e2, b e1 M = some (.nx, e2, M) ∧ I e2)) (hw : xs.length < W) :
    ∃ e2, forN (.fix (xs.map F)) t b W 0 e M = foundR r (xs.find? p) e2 M ∧ (xs.find? p = none → I e2) := by
  have := forN_find_go (F := F) p r h W 0 e (by omega) h0
  simpa using this
end
/-- while: each turn goes on nearer to the end, or returns -/
theorem whlN_ret {c : Envi → Mem → Option (Bool × Mem)} {b : Envi → Mem → Rr} (P : Nat → Envi → Mem → Prop) (R : D → Envi → Mem → Prop)
    (h : ∀ f e M, P f e M → c e M = some (true, M) ∧ ((∃ e2 M2, b e M = some (.nx, e2, M2) ∧ ∃ f', f' < f ∧ P f' e2 M2) ∨ ∃ u e2 M2, b e M = some (.rt u, e2, M2) ∧ R u e2 M2)) :
    ∀ (V f : Nat) (e : Envi) (M : Mem), f < V → P f e M → ∃ u e2 M2, whlN c b V e M = some (.rt u, e2, M2) ∧ R u e2 M2
  | 0, _, _, _, hf, _ => by omega
  | V + 1, f, e, M, hf, hP => by
    obtain ⟨h1, h2⟩ := h f e M hP
    simp only [whlN, h1]
    rcases h2 with ⟨e2, M2, h2, f', hf', h3⟩ | ⟨u, e2, M2, h2, h3⟩
    · simp only [h2]
      exact whlN_ret P R h V f' e2 M2 (by omega) h3
    · simp only [h2]
      exact ⟨u, e2, M2, rfl, h3⟩
/-- while: to where the condition fails -/
theorem whlN_end {c : Envi → Mem → Option (Bool × Mem)} {b : Envi → Mem → Rr} (P : Nat → Envi → Mem → Prop) (R : Envi → Mem → Prop)
    (h : ∀ f e M, P f e M → (∃ M1, c e M = some (false, M1) ∧ R e M1) ∨ ∃ M1, c e M = some (true, M1) ∧ ∃ e2 M2, b e M1 = some (.nx, e2, M2) ∧ ∃ f', f' < f ∧ P f' e2 M2) :
    ∀ (V f : Nat) (e : Envi) (M : Mem), f < V → P f e M → ∃ e2 M2, whlN c b V e M = some (.nx, e2, M2) ∧ R e2 M2
  | 0, _, _, _, hf, _ => by omega
  | V + 1, f, e, M, hf, hP => by
    rcases h f e M hP with ⟨M1, h1, h2⟩ | ⟨M1, h1, e2, M2, h2, f', hf', h3⟩
    · simp only [whlN, h1]
      exact ⟨e, M1, rfl, h2⟩
    · simp only [whlN, h1, h2]
      exact whlN_end P R h V f' e2 M2 (by omega) h3
theorem maxI_le : ∀ {xs : List Int} {m r : Int}, maxI xs = some m → (m ≤ r ↔ ∀ x ∈ xs, x ≤ r)
  | [], _, _, h => by cases h
  | x :: xs, m, r, h => by
    simp only [maxI] at h
    split at h
    · rename_i hn
      cases h
      cases xs with
      | nil => simp
      | cons y ys =>
        simp only [maxI] at hn
        split at hn <;> cases hn
    · rename_i j hj
      have ih := maxI_le (r := r) hj
      cases h
      simp only [List.mem_cons, forall_eq_or_imp]
      rw [← ih]
      split <;> constructor <;> intro z <;> (try constructor) <;> omega
theorem maxI_some : ∀ {xs : List Int}, xs ≠ [] → ∃ m, maxI xs = some m
  | [], h => absurd rfl h
  | x :: xs, _ => by
    simp only [maxI]
    split <;> exact ⟨_, rfl⟩
def gd' (n : Nat) (p : PyData) : Prop := p.canLay0 = true ∧ p.depth ≤ n
theorem gd'.mono {n m : Nat} {p : PyData} (h : gd' n p) (hn : n ≤ m) : gd' m p := ⟨h.1, Nat.le_trans h.2 hn⟩
theorem gd_all {n : Nat} : ∀ {ps : List PyData}, (∀ p ∈ ps, gd' n p) → PyData.canLayAll0 ps = true ∧ PyData.depthAll ps ≤ n
  | [], _ => ⟨rfl, by simp [PyData.depthAll]⟩
  | p :: ps, h => by
    obtain ⟨h1, h2⟩ := h p (.head _)
    obtain ⟨h3, h4⟩ := gd_all fun q hq => h q (.tail _ hq)
    exact ⟨by simp only [PyData.canLayAll0, h1, h3, Bool.and_self], by simp only [PyData.depthAll]; omega⟩
theorem gd_tup {n : Nat} {ps : List PyData} (h : ∀ p ∈ ps, gd' n p) : gd' (n + 1) (.tuple ps) := by
  obtain ⟨h1, h2⟩ := gd_all h
  exact ⟨by simp only [PyData.canLay0, h1], by simp only [PyData.depth]; omega⟩
theorem gd_lst {n : Nat} {ps : List PyData} (h : ∀ p ∈ ps, gd' n p) : gd' (n + 1) (.list ps) := by
  obtain ⟨h1, h2⟩ := gd_all h
  exact ⟨by simp only [PyData.canLay0, h1], by simp only [PyData.depth]; omega⟩
theorem gd_int {i : Int} : gd' 0 (.int i) := ⟨rfl, by simp [PyData.depth]⟩
theorem gd_non : gd' 0 .none := ⟨rfl, by simp [PyData.depth]⟩
theorem gd_bl {b : Bool} : gd' 0 (.bool b) := ⟨rfl, by simp [PyData.depth]⟩
theorem gd_str {x : Str} (h : SeqAt.shaped (.str x) = true) : gd' 0 (.str x) := ⟨SeqAt.canLay_of_shaped h, by simp [PyData.depth]⟩
theorem gd_shaped {n : Nat} {p : PyData} (h : gd' n p) (hn : n ≤ 64) : SeqAt.shaped p = true := by
  unfold SeqAt.shaped
  rw [h.1, Bool.true_and, decide_eq_true_eq]
  exact Nat.le_trans h.2 hn
theorem pyL_map {α : Type} {F : α → D} {G : α → PyData} : ∀ {xs : List α}, (∀ a ∈ xs, py (F a) = some (G a)) → pyL (xs.map F) = some (xs.map G)
  | [], _ => rfl
  | x :: xs, h => by
    simp only [List.map_cons, pyL, h x (.head _), pyL_map fun a ha => h a (.tail _ ha), Option.bind_some, Option.map_some]
theorem pyM_lf {M : Mem} {d : D} (h : lf d = true) : pyM M d = py d := by
  unfold pyM
  rw [fz_lf h, Option.bind_some]
theorem cmp_eq {M : Mem} {a b : D} {p q : PyData} {n m : Nat} (ha : lf a = true) (hb : lf b = true) (hp : py a = some p) (hq : py b = some q) (gp : gd' n p) (gq : gd' m q) (hn : n ≤ 64) (hm : m ≤ 64) : opCmp .eq a b M = some (PyData.eqv p q) := by
  simp only [opCmp]
  cases hs : sEq a b with
  | some k =>
    obtain ⟨x', y', rfl, rfl, rfl⟩ := sEq_some hs
    cases hp; cases hq
    simp only [PyData.eqv]
    congr 1
  | none => simp only [pyM_lf ha, pyM_lf hb, hp, hq, Option.bind_some, gd_shaped gp hn, gd_shaped gq hm, and_self, if_true]
theorem cmp_ne {M : Mem} {a b : D} {p q : PyData} {n m : Nat} (ha : lf a = true) (hb : lf b = true) (hp : py a = some p) (hq : py b = some q) (gp : gd' n p) (gq : gd' m q) (hn : n ≤ 64) (hm : m ≤ 64) : opCmp .ne a b M = some (!PyData.eqv p q) := by
  simp only [opCmp]
  cases hs : sEq a b with
  | some k =>
    obtain ⟨x', y', rfl, rfl, rfl⟩ := sEq_some hs
    cases hp; cases hq
    simp only [PyData.eqv]
    congr 1
  | none => simp only [pyM_lf ha, pyM_lf hb, hp, hq, Option.bind_some, gd_shaped gp hn, gd_shaped gq hm, and_self, if_true]
theorem py_tZ (zs : List Int) : py (tZ zs) = some (.tuple (zs.map .int)) := by
  simp only [tZ, py, pyL_map (F := D.int) (G := PyData.int) fun _ _ => rfl, Option.map_some]
theorem gd_tZ (zs : List Int) : gd' 1 (.tuple (zs.map .int)) := gd_tup fun p hp => by
  obtain ⟨z, _, rfl⟩ := List.mem_map.mp hp
  exact gd_int
theorem eqv_nilT (ps : List PyData) : PyData.eqv (.tuple ps) (.tuple []) = ps.isEmpty := by cases ps <;> simp [PyData.eqv, PyData.eqvAll]
theorem eqv_nilL (ps : List PyData) : PyData.eqv (.list ps) (.list []) = ps.isEmpty := by cases ps <;> simp [PyData.eqv, PyData.eqvAll]
theorem eqv_self {n : Nat} {p : PyData} (h : gd' n p) : PyData.eqv p p = true := SeqAt.eqv_refl p h.1
theorem intsOf_map : ∀ xs : List Int, intsOf (xs.map .int) = some xs
  | [] => rfl
  | x :: xs => by simp only [List.map_cons, intsOf, intsOf_map xs, Option.map_some]
theorem blsOf_map : ∀ xs : List Bool, blsOf (xs.map .bl) = some xs
  | [] => rfl
  | x :: xs => by simp only [List.map_cons, blsOf, blsOf_map xs, Option.map_some]
theorem cut_from1 {x : D} {xs : List D} : cutD (x :: xs) (some 1) none = xs := by
  have h : HT.sIx (x :: xs).length 0 (some 1) = 1 := by
    rw [show HT.sIx (x :: xs).length 0 (some 1) = min 1 (x :: xs).length from HT.sIx_nat _ 0 1]
    simp
  unfold cutD
  rw [h, HT.sIx_none]
  simp
theorem cut_front {xs : List D} : cutD xs none (some (-1)) = xs.dropLast := by
  unfold cutD
  rw [HT.sIx_none]
  simp only [HT.sIx, List.drop_zero, Nat.sub_zero]
  rw [if_pos (by omega), List.dropLast_eq_take]
  congr 1
  omega
theorem cut_to {xs : List D} {k : Nat} (h : k ≤ xs.length) : cutD xs none (some (k : Int)) = xs.take k := by
  unfold cutD
  rw [HT.sIx_none, HT.sIx_nat]
  simp only [List.drop_zero, Nat.sub_zero]
  rw [Nat.min_eq_left h]
theorem atI_ofNat {α : Type} {xs : List α} {k : Nat} (h : k < xs.length) : atI xs (k : Int) = xs[k]? := by
  unfold atI ixN
  rw [if_pos (by omega), if_pos (by omega)]
  simp
theorem atI_end {α : Type} {xs : List α} {x : α} : atI (xs ++ [x]) (-1) = some x := by
  unfold atI ixN
  rw [if_neg (by omega), if_pos (by simp; omega)]
  have h : (-1 + ((xs ++ [x]).length : Int)).toNat = xs.length := by simp; omega
  simp only [Option.bind_some, h]
  simp
end Wf
set_option Elab.async false
set_option linter.all false
set_option maxRecDepth 100000
set_option maxHeartbeats 4000000
namespace Wf
open PySem PySem.Spec PyProof.Rows L2
section
variable {m : Bool} {i j : Int} {M : Mem} {xs ys : List D} {x y : Str} {a b c d : D} {n : Nat}
theorem o_add : opBin .add m (.int i) (.int j) M = some (.int (i + j), M) := rfl
theorem o_sub : opBin .sub m (.int i) (.int j) M = some (.int (i - j), M) := rfl
theorem o_mul (h : -100000 ≤ i ∧ i ≤ 100000) : opBin .mul m (.int i) (.int j) M = some (.int (i * j), M) := by
  show (if _ then _ else _) = _
  rw [if_pos (.inl (by omega))]
theorem o_mulr (h : -100000 ≤ j ∧ j ≤ 100000) : opBin .mul m (.int i) (.int j) M = some (.int (i * j), M) := by
  show (if _ then _ else _) = _
  rw [if_pos (.inr (by omega))]
theorem o_mulg (h : (-(2 ^ 64) < i ∧ i < 2 ^ 64) ∨ (-(2 ^ 64) < j ∧ j < 2 ^ 64)) : opBin .mul m (.int i) (.int j) M = some (.int (i * j), M) := by
  show (if _ then _ else _) = _
  rw [if_pos h]
theorem exs_nx {W : Nat} {cl : Nat → List D → Mem → Option (D × Mem)} {s : Sm} {ss : List Sm} {e e' : Envi} {M M' : Mem} (h : ex W cl s e M = some (.nx, e', M')) : exs W cl (s :: ss) e M = exs W cl ss e' M' := by
  simp only [exs, h, Option.bind_some]
theorem exs_rt {W : Nat} {cl : Nat → List D → Mem → Option (D × Mem)} {s : Sm} {ss : List Sm} {e e' : Envi} {M M' : Mem} (h : ex W cl s e M = some (.rt d, e', M')) : exs W cl (s :: ss) e M = some (.rt d, e', M') := by
  simp only [exs, h, Option.bind_some]
theorem exs_nil {W : Nat} {cl : Nat → List D → Mem → Option (D × Mem)} {e : Envi} {M : Mem} : exs W cl [] e M = some (.nx, e, M) := by
  simp only [exs]
theorem o_fdiv (h : 0 < j ∧ j < 1073741824) : opBin .fdiv m (.int i) (.int j) M = some (.int (i / j), M) := if_pos h
theorem o_mod (h : 0 < j) : opBin .mod m (.int i) (.int j) M = some (.int (i % j), M) := if_pos h
theorem o_tadd (h : xs.length + ys.length ≤ sizeLine) : opBin .add m (.tup xs) (.tup ys) M = some (.tup (xs ++ ys), M) := by
  show mkT (xs ++ ys) M = _
  unfold mkT
  rw [if_pos (by simpa using h)]
theorem o_ladd (h : xs.length + ys.length ≤ sizeLine) : opBin .add false (.lst xs) (.lst ys) M = some (.lst (xs ++ ys), M) := by
  show mkL false (xs ++ ys) M = _
  unfold mkL
  rw [if_pos (by simpa using h)]; rfl
theorem o_sadd (h : x.length + y.length ≤ sizeLine) : opBin .add m (.str x) (.str y) M = some (.str (x ++ y), M) := if_pos h
theorem c_lt : opCmp .lt (.int i) (.int j) M = some (decide (i < j)) := rfl
theorem c_le : opCmp .le (.int i) (.int j) M = some (decide (i ≤ j)) := rfl
theorem c_gt : opCmp .gt (.int i) (.int j) M = some (decide (j < i)) := rfl
theorem c_ge : opCmp .ge (.int i) (.int j) M = some (decide (j ≤ i)) := rfl
theorem c_is : opCmp .is a .non M = some (isNon a) := rfl
theorem c_isnt : opCmp .isnt a .non M = some (!isNon a) := rfl
theorem sh_int : SeqAt.shaped (.int i) = true := rfl
theorem c_eqi : opCmp .eq (.int i) (.int j) M = some (decide (i = j)) := by
  simp only [opCmp, sEq, pyM, fz, fzG, py, Option.bind_some, sh_int, and_self, if_true, PyData.eqv]
  congr 1
theorem c_nei : opCmp .ne (.int i) (.int j) M = some (!decide (i = j)) := by
  simp only [opCmp, sEq, pyM, fz, fzG, py, Option.bind_some, sh_int, and_self, if_true, PyData.eqv]
  congr 1
def sOk (x : Str) : Bool := SeqAt.shaped (.str x)
theorem c_eqs (hx : sOk x = true) (hy : sOk y = true) : opCmp .eq (.str x) (.str y) M = some (decide (x = y)) := rfl
theorem c_eqs' : opCmp .eq (.str x) (.str y) M = some (decide (x = y)) := rfl
theorem c_nes (hx : sOk x = true) (hy : sOk y = true) : opCmp .ne (.str x) (.str y) M = some (!decide (x = y)) := rfl
theorem c_nes' : opCmp .ne (.str x) (.str y) M = some (!decide (x = y)) := rfl
theorem i_tup : opIdx (.tup xs) (.int i) M = atI xs i := rfl
theorem i_lst : opIdx (.lst xs) (.int i) M = atI xs i := rfl
theorem i_scr : opIdx (.scr xs) (.int i) M = atI xs i := rfl
theorem i_loc (h : M[n]? = some (.lst xs)) : opIdx (.loc n) (.int i) M = atI xs i := by
  show (itemsL M (.loc n)).bind _ = _
  simp only [itemsL, h]; rfl
theorem i_sdc {ks : List Str} : opIdx (.sdc ks xs) (.str x) M = (ks.zip xs).lookup x := rfl
theorem i_locs {ks : List Str} (h : M[n]? = some (.sdc ks xs)) : opIdx (.loc n) (.str x) M = (ks.zip xs).lookup x := by
  show (dictS M (.loc n)).bind _ = _
  simp only [dictS, h]; rfl
theorem s_tup {lo hi : Option Int} : opSlc m (.tup xs) lo hi M = some (.tup (cutD xs lo hi), M) := rfl
theorem s_lst {lo hi : Option Int} : opSlc m (.lst xs) lo hi M = mkL m (cutD xs lo hi) M := rfl
theorem s_scr {lo hi : Option Int} : opSlc m (.scr xs) lo hi M = mkL m (cutD xs lo hi) M := rfl
theorem k_t (h : xs.length ≤ sizeLine) : mkT xs M = some (.tup xs, M) := if_pos h
theorem k_l (h : xs.length ≤ sizeLine) : mkL false xs M = some (.lst xs, M) := by
  unfold mkL
  rw [if_pos h]; rfl
theorem k_m (h : xs.length ≤ sizeLine) : mkL true xs M = some (.loc M.length, M ++ [.lst xs]) := by
  unfold mkL
  rw [if_pos h]; rfl
theorem b_lenT : opBi .len (.tup xs) M = some (.int xs.length, M) := rfl
theorem b_lenL : opBi .len (.lst xs) M = some (.int xs.length, M) := rfl
theorem b_tupL : opBi .tuple (.lst xs) M = some (.tup xs, M) := rfl
theorem b_tupT : opBi .tuple (.tup xs) M = some (.tup xs, M) := rfl
theorem b_tupM (h : M[n]? = some (.lst xs)) : opBi .tuple (.loc n) M = some (.tup xs, M) := by
  show (itemsL M (.loc n)).map _ = _
  simp only [itemsL, h]; rfl
theorem b_sum {zs : List Int} : opBi .sum (.lst (zs.map .int)) M = some (.int zs.sum, M) := by
  simp only [opBi, itemsL, Option.bind_some, intsOf_map, Option.map_some]
theorem b_all {zs : List Bool} : opBi .all (.lst (zs.map .bl)) M = some (.bl (zs.all id), M) := by
  simp only [opBi, itemsL, Option.bind_some, blsOf_map, Option.map_some]
theorem b_max {zs : List Int} : opBi .max (.lst (zs.map .int)) M = (maxI zs).map fun m => (.int m, M) := by
  simp only [opBi, itemsL, Option.bind_some, intsOf_map]
theorem b_int : opBi .int (.int i) M = some (.int i, M) := rfl
theorem b_intB {k : Bool} : opBi .int (.bl k) M = some (.int (if k then 1 else 0), M) := rfl
theorem b_abs : opBi .abs (.int i) M = some (.int (if i < 0 then -i else i), M) := rfl
theorem b_list (h : xs.length ≤ sizeLine) : opBi (.list false) (.lst xs) M = some (.lst xs, M) := k_l h
theorem sr_tup : srcOf M (.tup xs) = some (.fix xs) := rfl
theorem sr_lst : srcOf M (.lst xs) = some (.fix xs) := rfl
theorem at0 : atI (a :: xs) 0 = some a := by rw [show (0 : Int) = ((0 : Nat) : Int) from rfl, atI_ofNat (by simp)]; rfl
theorem at1 : atI (a :: b :: xs) 1 = some b := by rw [show (1 : Int) = ((1 : Nat) : Int) from rfl, atI_ofNat (by simp)]; rfl
theorem at2 : atI (a :: b :: c :: xs) 2 = some c := by rw [show (2 : Int) = ((2 : Nat) : Int) from rfl, atI_ofNat (by simp)]; rfl
theorem at3 {a3 : D} : atI (a :: b :: c :: a3 :: xs) 3 = some a3 := by rw [show (3 : Int) = ((3 : Nat) : Int) from rfl, atI_ofNat (by simp)]; rfl
theorem at4 {a3 a4 : D} : atI (a :: b :: c :: a3 :: a4 :: xs) 4 = some a4 := by rw [show (4 : Int) = ((4 : Nat) : Int) from rfl, atI_ofNat (by simp)]; rfl
theorem at5 {a3 a4 a5 : D} : atI (a :: b :: c :: a3 :: a4 :: a5 :: xs) 5 = some a5 := by rw [show (5 : Int) = ((5 : Nat) : Int) from rfl, atI_ofNat (by simp)]; rfl
theorem g_var {e : Envi} (h : e[n]? = some (some d)) : (match e[n]? with
      | some (some d) => some (d, M)
      | x => none) = some (d, M) := by rw [h]
theorem t_nm {e : Envi} : bindT (.nm n) d e = some (e.set n (some d)) := by rw [bindT]
theorem t_tp {e : Envi} {ts : List Tg} : bindT (.tp ts) (.tup xs) e = bindTs ts xs e := by rw [bindT]
theorem t_nil {e : Envi} : bindTs [] [] e = some e := by rw [bindTs]
theorem t_cons {e : Envi} {t : Tg} {ts : List Tg} : bindTs (t :: ts) (d :: xs) e = (bindT t d e).bind fun e' => bindTs ts xs e' := by rw [bindTs]
theorem asB_bl {k : Bool} : asB (some (.bl k, M)) = some (k, M) := rfl
theorem neg_int : (match D.int i with
      | .int i => some (D.int (-i), M)
      | _ => none) = some (D.int (-i), M) := rfl
theorem if_and {k l : Bool} : (if k = true then some (D.bl l, M) else some (D.bl false, M)) = some (D.bl (k && l), M) := by cases k <;> rfl
theorem if_or {k l : Bool} : (if k = true then some (D.bl true, M) else some (D.bl l, M)) = some (D.bl (k || l), M) := by cases k <;> rfl
theorem z_src {zs : List Int} : srcOf M (tZ zs) = some (.fix (zs.map .int)) := rfl
theorem z_len {zs : List Int} : opBi .len (tZ zs) M = some (.int zs.length, M) := by
  show some (D.int ((zs.map D.int).length : Int), M) = _
  rw [List.length_map]
theorem z_tail {z : Int} {zs : List Int} : opSlc m (tZ (z :: zs)) (some 1) none M = some (tZ zs, M) := by
  show some (D.tup (cutD (D.int z :: zs.map D.int) (some 1) none), M) = _
  rw [cut_from1]; rfl
theorem z_front {zs : List Int} : opSlc m (tZ zs) none (some (-1)) M = some (tZ zs.dropLast, M) := by
  show some (D.tup (cutD (zs.map D.int) none (some (-1))), M) = _
  rw [cut_front, ← List.map_dropLast]; rfl
theorem z_to {zs : List Int} {k : Nat} (h : k ≤ zs.length) : opSlc m (tZ zs) none (some (k : Int)) M = some (tZ (zs.take k), M) := by
  show some (D.tup (cutD (zs.map D.int) none (some (k : Int))), M) = _
  rw [cut_to (by simpa using h), ← List.map_take]; rfl
theorem z_add {us vs : List Int} (h : us.length + vs.length ≤ sizeLine) : opBin .add m (tZ us) (tZ vs) M = some (tZ (us ++ vs), M) := by
  rw [tZ, tZ, o_tadd (by simpa using h), ← List.map_append]; rfl
theorem z_one {z : Int} : D.tup [.int z] = tZ [z] := rfl
theorem z_at0 {z : Int} {zs : List Int} : opIdx (tZ (z :: zs)) (.int 0) M = some (.int z) := at0
theorem z_at {zs : List Int} {k : Nat} (h : k < zs.length) : opIdx (tZ zs) (.int (k : Int)) M = some (.int (zs.getD k 0)) := by
  show atI (zs.map D.int) (k : Int) = _
  rw [atI_ofNat (by simpa using h), List.getElem?_map, List.getElem?_eq_getElem h]
  simp [List.getD, List.getElem?_eq_getElem h]
theorem z_last {zs : List Int} {z : Int} : opIdx (tZ (zs ++ [z])) (.int (-1)) M = some (.int z) := by
  show atI ((zs ++ [z]).map D.int) (-1) = _
  rw [List.map_append]
  exact atI_end
theorem sb_str {ks : List Str} (h : M[n]? = some (.sdc ks xs)) (hk : x ∉ ks) (hl : ks.length ≤ 100) : sbD (.loc n) (.str x) d M = some (M.set n (.sdc (ks ++ [x]) (xs ++ [d]))) := by
  simp only [sbD, h]
  rw [if_neg]
  rintro (z | z)
  · exact hk z
  · have : 100000 ≤ sizeLine := by decide
    omega
theorem sb_int {k : Nat} (h : M[n]? = some (.lst xs)) (hk : k < xs.length) : sbD (.loc n) (.int (k : Int)) d M = some (M.set n (.lst (xs.set k d))) := by
  simp only [sbD, h, ixN]
  rw [if_pos (by omega), if_pos (by omega)]
  simp
end
theorem line_ge {n : Nat} (h : n ≤ 100000) : n ≤ sizeLine := Nat.le_trans h (by decide)
section
variable {M : Mem} {a b c d e f g h : D}
theorem wkt0 : mkT [] M = some (.tup [], M) := k_t (line_ge (by simp))
theorem wkl0 : mkL false [] M = some (.lst [], M) := k_l (line_ge (by simp))
theorem wkm0 : mkL true [] M = some (.loc M.length, M ++ [.lst []]) := k_m (line_ge (by simp))
theorem wkt1 : mkT [a] M = some (.tup [a], M) := k_t (line_ge (by simp))
theorem wkl1 : mkL false [a] M = some (.lst [a], M) := k_l (line_ge (by simp))
theorem wkm1 : mkL true [a] M = some (.loc M.length, M ++ [.lst [a]]) := k_m (line_ge (by simp))
theorem wkt2 : mkT [a, b] M = some (.tup [a, b], M) := k_t (line_ge (by simp))
theorem wkl2 : mkL false [a, b] M = some (.lst [a, b], M) := k_l (line_ge (by simp))
theorem wkm2 : mkL true [a, b] M = some (.loc M.length, M ++ [.lst [a, b]]) := k_m (line_ge (by simp))
theorem wkt3 : mkT [a, b, c] M = some (.tup [a, b, c], M) := k_t (line_ge (by simp))
theorem wkl3 : mkL false [a, b, c] M = some (.lst [a, b, c], M) := k_l (line_ge (by simp))
theorem wkm3 : mkL true [a, b, c] M = some (.loc M.length, M ++ [.lst [a, b, c]]) := k_m (line_ge (by simp))
theorem wkt4 : mkT [a, b, c, d] M = some (.tup [a, b, c, d], M) := k_t (line_ge (by simp))
theorem wkl4 : mkL false [a, b, c, d] M = some (.lst [a, b, c, d], M) := k_l (line_ge (by simp))
theorem wkm4 : mkL true [a, b, c, d] M = some (.loc M.length, M ++ [.lst [a, b, c, d]]) := k_m (line_ge (by simp))
theorem wkt5 : mkT [a, b, c, d, e] M = some (.tup [a, b, c, d, e], M) := k_t (line_ge (by simp))
theorem wkl5 : mkL false [a, b, c, d, e] M = some (.lst [a, b, c, d, e], M) := k_l (line_ge (by simp))
theorem wkm5 : mkL true [a, b, c, d, e] M = some (.loc M.length, M ++ [.lst [a, b, c, d, e]]) := k_m (line_ge (by simp))
theorem wkt6 : mkT [a, b, c, d, e, f] M = some (.tup [a, b, c, d, e, f], M) := k_t (line_ge (by simp))
theorem wkl6 : mkL false [a, b, c, d, e, f] M = some (.lst [a, b, c, d, e, f], M) := k_l (line_ge (by simp))
theorem wkm6 : mkL true [a, b, c, d, e, f] M = some (.loc M.length, M ++ [.lst [a, b, c, d, e, f]]) := k_m (line_ge (by simp))
theorem wkt7 : mkT [a, b, c, d, e, f, g] M = some (.tup [a, b, c, d, e, f, g], M) := k_t (line_ge (by simp))
theorem wkl7 : mkL false [a, b, c, d, e, f, g] M = some (.lst [a, b, c, d, e, f, g], M) := k_l (line_ge (by simp))
theorem wkm7 : mkL true [a, b, c, d, e, f, g] M = some (.loc M.length, M ++ [.lst [a, b, c, d, e, f, g]]) := k_m (line_ge (by simp))
theorem wkt8 : mkT [a, b, c, d, e, f, g, h] M = some (.tup [a, b, c, d, e, f, g, h], M) := k_t (line_ge (by simp))
theorem wkl8 : mkL false [a, b, c, d, e, f, g, h] M = some (.lst [a, b, c, d, e, f, g, h], M) := k_l (line_ge (by simp))
theorem wkm8 : mkL true [a, b, c, d, e, f, g, h] M = some (.loc M.length, M ++ [.lst [a, b, c, d, e, f, g, h]]) := k_m (line_ge (by simp))
end
end Wf
set_option Elab.async false
set_option linter.all false
set_option maxRecDepth 100000
set_option maxHeartbeats 1000000
namespace Wf
open PySem PySem.Spec PyProof.Rows L2
/-- repr shows it: texts and lists at most m in all, n deep -/
structure Rp (m n : Nat) (p : PyData) : Prop where
  s : p.showable = true
  l : p.leavesShort 40 = true
  b : p.bulk ≤ m
  g : gd' n p
theorem Rp.mono {m n m' n' : Nat} {p : PyData} (h : Rp m n p) (hm : m ≤ m') (hn : n ≤ n') : Rp m' n' p := ⟨h.s, h.l, Nat.le_trans h.b hm, h.g.mono hn⟩
theorem rp_all {m n : Nat} : ∀ {ps : List PyData}, (∀ p ∈ ps, Rp m n p) → PyData.showableAll ps = true ∧ PyData.leavesShortAll 40 ps = true ∧ PyData.bulkAll ps ≤ ps.length * (m + 1)
  | [], _ => ⟨rfl, rfl, Nat.zero_le _⟩
  | p :: ps, h => by
    have h1 := h p (.head _)
    obtain ⟨h2, h3, h4⟩ := rp_all fun q hq => h q (.tail _ hq)
    refine ⟨by simp only [PyData.showableAll, h1.s, h2, Bool.and_self], by simp only [PyData.leavesShortAll, h1.l, h3, Bool.and_self], ?_⟩
    have := h1.b
    simp only [PyData.bulkAll, List.length_cons, Nat.add_mul]
    omega
theorem rp_tup {m n k : Nat} {ps : List PyData} (h : ∀ p ∈ ps, Rp m n p) (hk : ps.length ≤ k) : Rp (k * (m + 1)) (n + 1) (.tuple ps) := by
  obtain ⟨h1, h2, h3⟩ := rp_all h
  refine ⟨by simp only [PyData.showable, h1], by simp only [PyData.leavesShort, h2], ?_, gd_tup fun p hp => (h p hp).g⟩
  simp only [PyData.bulk]
  exact Nat.le_trans h3 (Nat.mul_le_mul_right _ hk)
theorem rp_lst {m n k : Nat} {ps : List PyData} (h : ∀ p ∈ ps, Rp m n p) (hk : ps.length ≤ k) : Rp (k * (m + 1)) (n + 1) (.list ps) := by
  obtain ⟨h1, h2, h3⟩ := rp_all h
  refine ⟨by simp only [PyData.showable, h1], by simp only [PyData.leavesShort, h2], ?_, gd_lst fun p hp => (h p hp).g⟩
  simp only [PyData.bulk]
  exact Nat.le_trans h3 (Nat.mul_le_mul_right _ hk)
theorem rp_int {i : Int} (h : -(10 ^ 36) < i ∧ i < 10 ^ 36) : Rp 0 0 (.int i) := by
  have hn : i.natAbs < 10 ^ 36 := by omega
  refine ⟨?_, ?_, Nat.le_refl _, gd_int⟩
  · simp only [PyData.showable, decide_eq_true_eq]
    by_cases h0 : i.natAbs = 0
    · rw [h0]; decide
    · exact Nat.lt_of_lt_of_le ((Nat.log2_lt h0).mpr (Nat.lt_of_lt_of_le hn (show 10 ^ 36 ≤ 2 ^ 120 by decide))) (by decide)
  · have e := int_text_length_le10 (k := 36) (by decide) hn
    simp only [PyData.leavesShort, decide_eq_true_eq]
    show (Str.ofString (toString i)).length ≤ 40
    rw [PySem.ofString_length]
    omega
theorem rp_non : Rp 0 0 .none := ⟨rfl, rfl, Nat.le_refl _, gd_non⟩
theorem rp_str {x : Str} {m : Nat} (h : sOk x = true) (hm : x.cps.size ≤ m) : Rp m 0 (.str x) := by
  have g := gd_str h
  refine ⟨rfl, ?_, hm, g⟩
  refine PyData.leavesShort_of_canLay0 40 _ g.1 rfl
theorem b_repr {m n : Nat} {M : Mem} {d : D} {p : PyData} (hl : lf d = true) (hp : py d = some p) (h : Rp m n p) (hm : m ≤ 100000) (hn : n ≤ 60) : opBi .repr d M = some (.str p.shown, M) := by
  have h1 := PyData.shown_le_bulk 40 (by omega) p h.l
  have h2 := h.b
  have h3 : p.shown.length ≤ sizeLine := by
    have : (40 + 2) * p.bulk ≤ 42 * 100000 := Nat.mul_le_mul_left _ (by omega)
    refine Nat.le_trans h1 (Nat.le_trans (m := 4300000) (by omega) (by decide))
  simp only [opBi, pyM_lf hl, hp, Option.bind_some]
  rw [if_pos ⟨h.s, h3, Nat.le_trans h.g.2 hn, PyData.hasDict_of_canLay p h.g.1⟩]
theorem rp_tZ {zs : List Int} {k : Nat} (h : ∀ z ∈ zs, -(10 ^ 36) < z ∧ z < 10 ^ 36) (hk : zs.length ≤ k) : Rp k 1 (.tuple (zs.map .int)) := by
  have := rp_tup (m := 0) (n := 0) (k := k) (ps := zs.map .int) (fun p hp => by
    obtain ⟨z, hz, rfl⟩ := List.mem_map.mp hp
    exact rp_int (h z hz)) (by simpa using hk)
  simpa using this
end Wf
set_option Elab.async false
set_option linter.all false
set_option maxRecDepth 100000
set_option maxHeartbeats 1000000
namespace Wf
open PySem PySem.Spec PyProof.Rows L2
structure Dk where
  cells : List Int
  i : Int
  l : Int
  d : Int
structure Dk.Ok (k : Dk) (c : Nat) : Prop where
  n : k.cells.length ≤ 63
  i : 0 ≤ k.i
  l : 0 ≤ k.l
  d : 0 ≤ k.d ∧ k.d ≤ c
theorem Dk.Ok.mono {k : Dk} {c c' : Nat} (h : k.Ok c) (hc : c ≤ c') : k.Ok c' := ⟨h.n, h.i, h.l, h.d.1, by have := h.d.2; omega⟩
def dC (k : Dk) : Cn := .lst [.lst (k.cells.map .int), .int k.i, .int k.l, .int k.d]
section
variable {k : Dk} {tl : Mem} {v : Int}
theorem dk0 : opIdx (.loc 0) (.int 0) (dC k :: tl) = some (.lst (k.cells.map .int)) := by rw [i_loc rfl]; exact at0
theorem dk1 : opIdx (.loc 0) (.int 1) (dC k :: tl) = some (.int k.i) := by rw [i_loc rfl]; exact at1
theorem dk2 : opIdx (.loc 0) (.int 2) (dC k :: tl) = some (.int k.l) := by rw [i_loc rfl]; exact at2
theorem dk3 : opIdx (.loc 0) (.int 3) (dC k :: tl) = some (.int k.d) := by rw [i_loc rfl]; exact at3
theorem dks1 : sbD (.loc 0) (.int 1) (.int v) (dC k :: tl) = some (dC { k with i := v } :: tl) := rfl
theorem dks2 : sbD (.loc 0) (.int 2) (.int v) (dC k :: tl) = some (dC { k with l := v } :: tl) := rfl
theorem dks3 : sbD (.loc 0) (.int 3) (.int v) (dC k :: tl) = some (dC { k with d := v } :: tl) := rfl
theorem o_pow {i j : Int} {m : Bool} {M : Mem} (h : 0 ≤ j ∧ j ≤ 1000000 ∧ i.natAbs < 2 ^ 64) : opBin .pow m (.int i) (.int j) M = some (.int (i ^ j.toNat), M) := if_pos h
def c_draw : List Sm := [(.sub (.var 0) (.lit (.int (3))) (.bin .add false (.idx (.var 0) (.lit (.int (3)))) (.lit (.int (1))))),
  (.ifs (.cmp .gt (.idx (.var 0) (.lit (.int (2)))) (.lit (.int (0)))) [(.asg (.nm 2) (.bin .mod false (.bi .int (.idx (.var 0) (.lit (.int (2))))) (.var 1))),
  (.sub (.var 0) (.lit (.int (2))) (.bin .fdiv false (.idx (.var 0) (.lit (.int (2)))) (.var 1))),
  (.ret (.var 2))] []),
  (.asg (.nm 3) (.lit (.int (61)))),
  (.ifs (.cmp .ne (.idx (.var 0) (.lit (.int (0)))) (.lst false [])) [(.asg (.nm 3) (.idx (.idx (.var 0) (.lit (.int (0)))) (.bin .mod false (.bi .int (.idx (.var 0) (.lit (.int (1))))) (.bi .len (.idx (.var 0) (.lit (.int (0))))))))] []),
  (.sub (.var 0) (.lit (.int (1))) (.bin .add false (.idx (.var 0) (.lit (.int (1)))) (.lit (.int (1))))),
  (.ifs (.and (.cmp .ge (.bi .abs (.var 3)) (.bin .pow false (.lit (.int (10))) (.lit (.int (18))))) (.cmp .le (.idx (.var 0) (.lit (.int (1)))) (.bi .len (.idx (.var 0) (.lit (.int (0))))))) [(.sub (.var 0) (.lit (.int (2))) (.bin .fdiv false (.bi .abs (.var 3)) (.var 1))),
  (.ret (.bin .mod false (.bi .int (.bi .abs (.var 3))) (.var 1)))] []),
  (.asg (.nm 4) (.bin .mod false (.bin .pow false (.bi .int (.bin .add false (.bin .mod false (.bi .int (.var 3)) (.lit (.int (2147483629)))) (.bin .mul false (.lit (.int (49979687))) (.idx (.var 0) (.lit (.int (3))))))) (.lit (.int (5)))) (.lit (.int (2147483647))))),
  (.asg (.nm 4) (.bin .mod false (.bin .pow false (.bi .int (.bin .add false (.bin .mul false (.var 4) (.bin .add false (.bin .mul false (.lit (.int (2))) (.idx (.var 0) (.lit (.int (3))))) (.lit (.int (3))))) (.lit (.int (8887))))) (.lit (.int (3)))) (.lit (.int (2147483587))))),
  (.ret (.bin .mod false (.bin .fdiv false (.var 4) (.lit (.int (64)))) (.var 1)))]
theorem emod_range {a m : Int} (h : 0 < m) : 0 ≤ a % m ∧ a % m < m := ⟨Int.emod_nonneg _ (by omega), Int.emod_lt_of_pos _ h⟩
theorem mixed1 {z d : Int} {c : Nat} {cl : Nat → List D → Mem → Option (D × Mem)} {W : Nat} {e : Envi} {M : Mem} (h0 : e[0]? = some (some (.loc 0))) (h1 : e[3]? = some (some (.int z))) (h2 : opIdx (.loc 0) (.int 3) M = some (.int d)) (hd : 0 ≤ d) (hd2 : d ≤ c) (hc : c ≤ 1000000) :
    ∃ y, ev W cl (.bin .mod false (.bin .pow false (.bi .int (.bin .add false (.bin .mod false (.bi .int (.var 3)) (.lit (.int (2147483629)))) (.bin .mul false (.lit (.int (49979687))) (.idx (.var 0) (.lit (.int (3))))))) (.lit (.int (5)))) (.lit (.int (2147483647)))) e M = some (.int y, M) ∧ 0 ≤ y ∧ y < 2147483647 := by
  have r1 := emod_range (a := z) (m := 2147483629) (by omega)
  refine ⟨_, ?_, emod_range (a := (z % 2147483629 + 49979687 * d) ^ 5) (m := 2147483647) (by omega)⟩
  simp only [ev, h0, h1, Option.bind_some, b_int, o_mod (show (0 : Int) < 2147483629 by omega), o_mod (show (0 : Int) < 2147483647 by omega), h2, Option.map_some, o_add]
  rw [o_mulg (.inl (by omega))]
  simp only [Option.bind_some, o_add, b_int]
  rw [o_pow (by refine ⟨by omega, by omega, ?_⟩; omega)]
  simp only [Option.bind_some, o_mod (show (0 : Int) < 2147483647 by omega)]
  rfl
theorem mixed2 {y d : Int} {c : Nat} {cl : Nat → List D → Mem → Option (D × Mem)} {W : Nat} {e : Envi} {M : Mem} (h0 : e[0]? = some (some (.loc 0))) (h1 : e[4]? = some (some (.int y))) (h2 : opIdx (.loc 0) (.int 3) M = some (.int d)) (hy : 0 ≤ y ∧ y < 2147483647) (hd : 0 ≤ d) (hd2 : d ≤ c) (hc : c ≤ 1000000) :
    ∃ x, ev W cl (.bin .mod false (.bin .pow false (.bi .int (.bin .add false (.bin .mul false (.var 4) (.bin .add false (.bin .mul false (.lit (.int (2))) (.idx (.var 0) (.lit (.int (3))))) (.lit (.int (3))))) (.lit (.int (8887))))) (.lit (.int (3)))) (.lit (.int (2147483587)))) e M = some (.int x, M) := by
  refine ⟨(y * (2 * d + 3) + 8887) ^ 3 % 2147483587, ?_⟩
  have hb : 0 ≤ y * (2 * d + 3) := Int.mul_nonneg hy.1 (by omega)
  have hb2 : y * (2 * d + 3) ≤ 2147483647 * (2 * d + 3) := Int.mul_le_mul_of_nonneg_right (by omega) (by omega)
  simp only [ev, h0, h1, Option.bind_some, h2, Option.map_some]
  rw [o_mulg (.inl (by omega))]
  simp only [Option.bind_some, o_add]
  rw [o_mulg (.inl (by omega))]
  simp only [Option.bind_some, o_add, b_int]
  rw [o_pow (by refine ⟨by omega, by omega, ?_⟩; omega)]
  simp only [Option.bind_some, o_mod (show (0 : Int) < 2147483587 by omega)]
  rfl
theorem draw_code {f : Fd} {m : Int} {c W : Nat} {cl : Nat → List D → Mem → Option (D × Mem)} (hf : f.code = c_draw) (hN : f.N.length = 5) (hk : k.Ok c) (hc : c < 1000000) (hm : 0 < m ∧ m < 1073741824) :
    ∃ v k', runB W cl f [.loc 0, .int m] (dC k :: tl) = some (.int v, dC k' :: tl) ∧ 0 ≤ v ∧ v < m ∧ k'.Ok (c + 1) := by
  have hd := hk.d
  have hi := hk.i
  have hl := hk.l
  have hn := hk.n
  have hsz : k.cells.length ≤ sizeLine := line_ge (by omega)
  rw [runB, hf, hN, c_draw]
  rw [exs_nx (e' := [some (.loc 0), some (.int m), none, none, none]) (M' := dC { k with d := k.d + 1 } :: tl) (by simp only [runB, outR, exs, ex, ev, evs, evo, evi, t_nm, t_tp, t_nil, t_cons, startE, List.map_cons, List.map_nil, List.length_cons, List.length_nil, Nat.reduceAdd, Nat.reduceSub, Nat.sub_self, List.replicate, List.append_nil, List.cons_append, List.nil_append, List.getElem?_cons_zero, List.getElem?_cons_succ, List.set_cons_zero, List.set_cons_succ, Option.bind_some, Option.map_some, Option.bind_none, Option.map_none, asB_bl, if_true, if_false, Bool.false_eq_true, Bool.true_eq_false, o_add, o_sub, c_lt, c_le, c_gt, c_ge, c_is, c_isnt, isNon, c_eqi, c_nei, i_tup, i_lst, i_scr, i_sdc, s_tup, s_lst, b_lenT, b_lenL, b_tupL, b_tupT, b_sum, b_all, b_max, b_int, b_intB, b_abs, sr_tup, sr_lst, at0, at1, at2, at3, at4, at5, partI, wipeE, eq_self, decide_true, decide_false, Bool.and_true, Bool.true_and, Bool.and_false, Bool.false_and, Bool.or_false, Bool.false_or, Bool.or_true, Bool.true_or, if_and, if_or, z_src, z_len, z_tail, z_front, z_at0, z_last, z_one, wkt0, wkl0, wkm0, wkt1, wkl1, wkm1, wkt2, wkl2, wkm2, wkt3, wkl3, wkm3, wkt4, wkl4, wkm4, wkt5, wkl5, wkm5, wkt6, wkl6, wkm6, wkt7, wkl7, wkm7, wkt8, wkl8, wkm8, dk3, dks3])]
  have cont : ∀ z : Int, ∃ (v : Int) (k' : Dk × Envi), exs W cl [(.sub (.var 0) (.lit (.int (1))) (.bin .add false (.idx (.var 0) (.lit (.int (1)))) (.lit (.int (1))))),
      (.ifs (.and (.cmp .ge (.bi .abs (.var 3)) (.bin .pow false (.lit (.int (10))) (.lit (.int (18))))) (.cmp .le (.idx (.var 0) (.lit (.int (1)))) (.bi .len (.idx (.var 0) (.lit (.int (0))))))) [(.sub (.var 0) (.lit (.int (2))) (.bin .fdiv false (.bi .abs (.var 3)) (.var 1))),
      (.ret (.bin .mod false (.bi .int (.bi .abs (.var 3))) (.var 1)))] []),
      (.asg (.nm 4) (.bin .mod false (.bin .pow false (.bi .int (.bin .add false (.bin .mod false (.bi .int (.var 3)) (.lit (.int (2147483629)))) (.bin .mul false (.lit (.int (49979687))) (.idx (.var 0) (.lit (.int (3))))))) (.lit (.int (5)))) (.lit (.int (2147483647))))),
      (.asg (.nm 4) (.bin .mod false (.bin .pow false (.bi .int (.bin .add false (.bin .mul false (.var 4) (.bin .add false (.bin .mul false (.lit (.int (2))) (.idx (.var 0) (.lit (.int (3))))) (.lit (.int (3))))) (.lit (.int (8887))))) (.lit (.int (3)))) (.lit (.int (2147483587))))),
      (.ret (.bin .mod false (.bin .fdiv false (.var 4) (.lit (.int (64)))) (.var 1)))]
      [some (.loc 0), some (.int m), none, some (.int z), none] (dC { k with d := k.d + 1 } :: tl) = some (.rt (.int v), k'.2, dC k'.1 :: tl) ∧ 0 ≤ v ∧ v < m ∧ k'.1.Ok (c + 1) := fun z => by
    rw [exs_nx (e' := [some (.loc 0), some (.int m), none, some (.int z), none]) (M' := dC { k with d := k.d + 1, i := k.i + 1 } :: tl) (by simp only [runB, outR, exs, ex, ev, evs, evo, evi, t_nm, t_tp, t_nil, t_cons, startE, List.map_cons, List.map_nil, List.length_cons, List.length_nil, Nat.reduceAdd, Nat.reduceSub, Nat.sub_self, List.replicate, List.append_nil, List.cons_append, List.nil_append, List.getElem?_cons_zero, List.getElem?_cons_succ, List.set_cons_zero, List.set_cons_succ, Option.bind_some, Option.map_some, Option.bind_none, Option.map_none, asB_bl, if_true, if_false, Bool.false_eq_true, Bool.true_eq_false, o_add, o_sub, c_lt, c_le, c_gt, c_ge, c_is, c_isnt, isNon, c_eqi, c_nei, i_tup, i_lst, i_scr, i_sdc, s_tup, s_lst, b_lenT, b_lenL, b_tupL, b_tupT, b_sum, b_all, b_max, b_int, b_intB, b_abs, sr_tup, sr_lst, at0, at1, at2, at3, at4, at5, partI, wipeE, eq_self, decide_true, decide_false, Bool.and_true, Bool.true_and, Bool.and_false, Bool.false_and, Bool.or_false, Bool.false_or, Bool.or_true, Bool.true_or, if_and, if_or, z_src, z_len, z_tail, z_front, z_at0, z_last, z_one, wkt0, wkl0, wkm0, wkt1, wkl1, wkm1, wkt2, wkl2, wkm2, wkt3, wkl3, wkm3, wkt4, wkl4, wkm4, wkt5, wkl5, wkm5, wkt6, wkl6, wkm6, wkt7, wkl7, wkm7, wkt8, wkl8, wkm8, dk1, dks1])]
    have hab : 0 ≤ (if z < 0 then -z else z) := by split <;> omega
    generalize hz : (if z < 0 then -z else z) = u at hab
    cases hb : (decide (((10 : Int) ^ (18 : Int).toNat) ≤ u) && decide (k.i + 1 ≤ (k.cells.length : Int))) with
    | true =>
      have hr := emod_range (a := u) hm.1
      refine ⟨u % m, ({ k with d := k.d + 1, i := k.i + 1, l := u / m }, [some (.loc 0), some (.int m), none, some (.int z), none]), ?_, hr.1, hr.2, ⟨hn, ?_, ?_, ?_⟩⟩
      · refine exs_rt ?_
        simp only [runB, outR, exs, ex, ev, evs, evo, evi, t_nm, t_tp, t_nil, t_cons, startE, List.map_cons, List.map_nil, List.length_cons, List.length_nil, Nat.reduceAdd, Nat.reduceSub, Nat.sub_self, List.replicate, List.append_nil, List.cons_append, List.nil_append, List.getElem?_cons_zero, List.getElem?_cons_succ, List.set_cons_zero, List.set_cons_succ, Option.bind_some, Option.map_some, Option.bind_none, Option.map_none, asB_bl, if_true, if_false, Bool.false_eq_true, Bool.true_eq_false, o_add, o_sub, c_lt, c_le, c_gt, c_ge, c_is, c_isnt, isNon, c_eqi, c_nei, i_tup, i_lst, i_scr, i_sdc, s_tup, s_lst, b_lenT, b_lenL, b_tupL, b_tupT, b_sum, b_all, b_max, b_int, b_intB, b_abs, sr_tup, sr_lst, at0, at1, at2, at3, at4, at5, partI, wipeE, eq_self, decide_true, decide_false, Bool.and_true, Bool.true_and, Bool.and_false, Bool.false_and, Bool.or_false, Bool.false_or, Bool.or_true, Bool.true_or, if_and, if_or, z_src, z_len, z_tail, z_front, z_at0, z_last, z_one, wkt0, wkl0, wkm0, wkt1, wkl1, wkm1, wkt2, wkl2, wkm2, wkt3, wkl3, wkm3, wkt4, wkl4, wkm4, wkt5, wkl5, wkm5, wkt6, wkl6, wkm6, wkt7, wkl7, wkm7, wkt8, wkl8, wkm8, dk1, dk0, o_pow (show 0 ≤ (18 : Int) ∧ (18 : Int) ≤ 1000000 ∧ (10 : Int).natAbs < 2 ^ 64 by decide), hz, List.length_map, hb, o_fdiv hm, dks2, o_mod hm.1]
      · show 0 ≤ k.i + 1
        omega
      · exact Int.ediv_nonneg hab (by omega)
      · show 0 ≤ k.d + 1 ∧ k.d + 1 ≤ ((c + 1 : Nat) : Int)
        omega
    | false =>
      rw [exs_nx (e' := [some (.loc 0), some (.int m), none, some (.int z), none]) (M' := dC { k with d := k.d + 1, i := k.i + 1 } :: tl) (by simp only [runB, outR, exs, ex, ev, evs, evo, evi, t_nm, t_tp, t_nil, t_cons, startE, List.map_cons, List.map_nil, List.length_cons, List.length_nil, Nat.reduceAdd, Nat.reduceSub, Nat.sub_self, List.replicate, List.append_nil, List.cons_append, List.nil_append, List.getElem?_cons_zero, List.getElem?_cons_succ, List.set_cons_zero, List.set_cons_succ, Option.bind_some, Option.map_some, Option.bind_none, Option.map_none, asB_bl, if_true, if_false, Bool.false_eq_true, Bool.true_eq_false, o_add, o_sub, c_lt, c_le, c_gt, c_ge, c_is, c_isnt, isNon, c_eqi, c_nei, i_tup, i_lst, i_scr, i_sdc, s_tup, s_lst, b_lenT, b_lenL, b_tupL, b_tupT, b_sum, b_all, b_max, b_int, b_intB, b_abs, sr_tup, sr_lst, at0, at1, at2, at3, at4, at5, partI, wipeE, eq_self, decide_true, decide_false, Bool.and_true, Bool.true_and, Bool.and_false, Bool.false_and, Bool.or_false, Bool.false_or, Bool.or_true, Bool.true_or, if_and, if_or, z_src, z_len, z_tail, z_front, z_at0, z_last, z_one, wkt0, wkl0, wkm0, wkt1, wkl1, wkm1, wkt2, wkl2, wkm2, wkt3, wkl3, wkm3, wkt4, wkl4, wkm4, wkt5, wkl5, wkm5, wkt6, wkl6, wkm6, wkt7, wkl7, wkm7, wkt8, wkl8, wkm8, dk1, dk0, o_pow (show 0 ≤ (18 : Int) ∧ (18 : Int) ≤ 1000000 ∧ (10 : Int).natAbs < 2 ^ 64 by decide), hz, List.length_map, hb])]
      obtain ⟨y, hy, hy2⟩ := mixed1 (W := W) (cl := cl) (c := c + 1) (z := z) (d := k.d + 1) (e := [some (.loc 0), some (.int m), none, some (.int z), none]) (M := dC { k with d := k.d + 1, i := k.i + 1 } :: tl) rfl rfl dk3 (by omega) (by omega) (by omega)
      rw [exs_nx (e' := [some (.loc 0), some (.int m), none, some (.int z), some (.int y)]) (M' := dC { k with d := k.d + 1, i := k.i + 1 } :: tl) (by simp only [ex, hy, Option.bind_some, t_nm, Option.map_some]; rfl)]
      obtain ⟨x, hx⟩ := mixed2 (W := W) (cl := cl) (c := c + 1) (y := y) (d := k.d + 1) (e := [some (.loc 0), some (.int m), none, some (.int z), some (.int y)]) (M := dC { k with d := k.d + 1, i := k.i + 1 } :: tl) rfl rfl dk3 hy2 (by omega) (by omega) (by omega)
      rw [exs_nx (e' := [some (.loc 0), some (.int m), none, some (.int z), some (.int x)]) (M' := dC { k with d := k.d + 1, i := k.i + 1 } :: tl) (by simp only [ex, hx, Option.bind_some, t_nm, Option.map_some]; rfl)]
      have hr := emod_range (a := x / 64) hm.1
      refine ⟨x / 64 % m, ({ k with d := k.d + 1, i := k.i + 1 }, [some (.loc 0), some (.int m), none, some (.int z), some (.int x)]), ?_, hr.1, hr.2, ⟨hn, ?_, hl, ?_⟩⟩
      · refine exs_rt ?_
        simp only [runB, outR, exs, ex, ev, evs, evo, evi, t_nm, t_tp, t_nil, t_cons, startE, List.map_cons, List.map_nil, List.length_cons, List.length_nil, Nat.reduceAdd, Nat.reduceSub, Nat.sub_self, List.replicate, List.append_nil, List.cons_append, List.nil_append, List.getElem?_cons_zero, List.getElem?_cons_succ, List.set_cons_zero, List.set_cons_succ, Option.bind_some, Option.map_some, Option.bind_none, Option.map_none, asB_bl, if_true, if_false, Bool.false_eq_true, Bool.true_eq_false, o_add, o_sub, c_lt, c_le, c_gt, c_ge, c_is, c_isnt, isNon, c_eqi, c_nei, i_tup, i_lst, i_scr, i_sdc, s_tup, s_lst, b_lenT, b_lenL, b_tupL, b_tupT, b_sum, b_all, b_max, b_int, b_intB, b_abs, sr_tup, sr_lst, at0, at1, at2, at3, at4, at5, partI, wipeE, eq_self, decide_true, decide_false, Bool.and_true, Bool.true_and, Bool.and_false, Bool.false_and, Bool.or_false, Bool.false_or, Bool.or_true, Bool.true_or, if_and, if_or, z_src, z_len, z_tail, z_front, z_at0, z_last, z_one, wkt0, wkl0, wkm0, wkt1, wkl1, wkm1, wkt2, wkl2, wkm2, wkt3, wkl3, wkm3, wkt4, wkl4, wkm4, wkt5, wkl5, wkm5, wkt6, wkl6, wkm6, wkt7, wkl7, wkm7, wkt8, wkl8, wkm8, o_fdiv (show (0 : Int) < 64 ∧ (64 : Int) < 1073741824 by omega), o_mod hm.1]
      · show 0 ≤ k.i + 1
        omega
      · show 0 ≤ k.d + 1 ∧ k.d + 1 ≤ ((c + 1 : Nat) : Int)
        omega
  by_cases h1 : 0 < k.l
  · have hr := emod_range (a := k.l) hm.1
    rw [exs_rt (d := .int (k.l % m)) (e' := [some (.loc 0), some (.int m), some (.int (k.l % m)), none, none]) (M' := dC { k with d := k.d + 1, l := k.l / m } :: tl) (by simp only [runB, outR, exs, ex, ev, evs, evo, evi, t_nm, t_tp, t_nil, t_cons, startE, List.map_cons, List.map_nil, List.length_cons, List.length_nil, Nat.reduceAdd, Nat.reduceSub, Nat.sub_self, List.replicate, List.append_nil, List.cons_append, List.nil_append, List.getElem?_cons_zero, List.getElem?_cons_succ, List.set_cons_zero, List.set_cons_succ, Option.bind_some, Option.map_some, Option.bind_none, Option.map_none, asB_bl, if_true, if_false, Bool.false_eq_true, Bool.true_eq_false, o_add, o_sub, c_lt, c_le, c_gt, c_ge, c_is, c_isnt, isNon, c_eqi, c_nei, i_tup, i_lst, i_scr, i_sdc, s_tup, s_lst, b_lenT, b_lenL, b_tupL, b_tupT, b_sum, b_all, b_max, b_int, b_intB, b_abs, sr_tup, sr_lst, at0, at1, at2, at3, at4, at5, partI, wipeE, eq_self, decide_true, decide_false, Bool.and_true, Bool.true_and, Bool.and_false, Bool.false_and, Bool.or_false, Bool.false_or, Bool.or_true, Bool.true_or, if_and, if_or, z_src, z_len, z_tail, z_front, z_at0, z_last, z_one, wkt0, wkl0, wkm0, wkt1, wkl1, wkm1, wkt2, wkl2, wkm2, wkt3, wkl3, wkm3, wkt4, wkl4, wkm4, wkt5, wkl5, wkm5, wkt6, wkl6, wkm6, wkt7, wkl7, wkm7, wkt8, wkl8, wkm8, dk2, decide_eq_true h1, o_mod hm.1, o_fdiv hm, dks2])]
    exact ⟨_, _, rfl, hr.1, hr.2, ⟨hn, hi, Int.ediv_nonneg hl (by omega), by show 0 ≤ k.d + 1 ∧ k.d + 1 ≤ ((c + 1 : Nat) : Int); omega⟩⟩
  · rw [exs_nx (e' := [some (.loc 0), some (.int m), none, none, none]) (M' := dC { k with d := k.d + 1 } :: tl) (by simp only [runB, outR, exs, ex, ev, evs, evo, evi, t_nm, t_tp, t_nil, t_cons, startE, List.map_cons, List.map_nil, List.length_cons, List.length_nil, Nat.reduceAdd, Nat.reduceSub, Nat.sub_self, List.replicate, List.append_nil, List.cons_append, List.nil_append, List.getElem?_cons_zero, List.getElem?_cons_succ, List.set_cons_zero, List.set_cons_succ, Option.bind_some, Option.map_some, Option.bind_none, Option.map_none, asB_bl, if_true, if_false, Bool.false_eq_true, Bool.true_eq_false, o_add, o_sub, c_lt, c_le, c_gt, c_ge, c_is, c_isnt, isNon, c_eqi, c_nei, i_tup, i_lst, i_scr, i_sdc, s_tup, s_lst, b_lenT, b_lenL, b_tupL, b_tupT, b_sum, b_all, b_max, b_int, b_intB, b_abs, sr_tup, sr_lst, at0, at1, at2, at3, at4, at5, partI, wipeE, eq_self, decide_true, decide_false, Bool.and_true, Bool.true_and, Bool.and_false, Bool.false_and, Bool.or_false, Bool.false_or, Bool.or_true, Bool.true_or, if_and, if_or, z_src, z_len, z_tail, z_front, z_at0, z_last, z_one, wkt0, wkl0, wkm0, wkt1, wkl1, wkm1, wkt2, wkl2, wkm2, wkt3, wkl3, wkm3, wkt4, wkl4, wkm4, wkt5, wkl5, wkm5, wkt6, wkl6, wkm6, wkt7, wkl7, wkm7, wkt8, wkl8, wkm8, dk2, decide_eq_false h1])]
    rw [exs_nx (e' := [some (.loc 0), some (.int m), none, some (.int 61), none]) (M' := dC { k with d := k.d + 1 } :: tl) (by simp only [runB, outR, exs, ex, ev, evs, evo, evi, t_nm, t_tp, t_nil, t_cons, startE, List.map_cons, List.map_nil, List.length_cons, List.length_nil, Nat.reduceAdd, Nat.reduceSub, Nat.sub_self, List.replicate, List.append_nil, List.cons_append, List.nil_append, List.getElem?_cons_zero, List.getElem?_cons_succ, List.set_cons_zero, List.set_cons_succ, Option.bind_some, Option.map_some, Option.bind_none, Option.map_none, asB_bl, if_true, if_false, Bool.false_eq_true, Bool.true_eq_false, o_add, o_sub, c_lt, c_le, c_gt, c_ge, c_is, c_isnt, isNon, c_eqi, c_nei, i_tup, i_lst, i_scr, i_sdc, s_tup, s_lst, b_lenT, b_lenL, b_tupL, b_tupT, b_sum, b_all, b_max, b_int, b_intB, b_abs, sr_tup, sr_lst, at0, at1, at2, at3, at4, at5, partI, wipeE, eq_self, decide_true, decide_false, Bool.and_true, Bool.true_and, Bool.and_false, Bool.false_and, Bool.or_false, Bool.false_or, Bool.or_true, Bool.true_or, if_and, if_or, z_src, z_len, z_tail, z_front, z_at0, z_last, z_one, wkt0, wkl0, wkm0, wkt1, wkl1, wkm1, wkt2, wkl2, wkm2, wkt3, wkl3, wkm3, wkt4, wkl4, wkm4, wkt5, wkl5, wkm5, wkt6, wkl6, wkm6, wkt7, wkl7, wkm7, wkt8, wkl8, wkm8])]
    have hne : opCmp .ne (.lst (k.cells.map .int)) (.lst []) (dC { k with d := k.d + 1 } :: tl) = some (!k.cells.isEmpty) := by
      rw [cmp_ne (n := 1) (m := 1) (p := .list (k.cells.map PyData.int)) (q := .list []) (by rw [lf]; exact lfL_ints _) rfl (by simp only [py, pyL_map (F := D.int) (G := PyData.int) fun _ _ => rfl, Option.map_some]) rfl
        (gd_lst fun p hp => by
          obtain ⟨z, _, rfl⟩ := List.mem_map.mp hp
          exact gd_int) (gd_lst fun p hp => by simp at hp) (by omega) (by omega), eqv_nilL]
      cases k.cells <;> rfl
    cases hc0 : k.cells.isEmpty with
    | true =>
      rw [exs_nx (e' := [some (.loc 0), some (.int m), none, some (.int 61), none]) (M' := dC { k with d := k.d + 1 } :: tl) (by simp only [runB, outR, exs, ex, ev, evs, evo, evi, t_nm, t_tp, t_nil, t_cons, startE, List.map_cons, List.map_nil, List.length_cons, List.length_nil, Nat.reduceAdd, Nat.reduceSub, Nat.sub_self, List.replicate, List.append_nil, List.cons_append, List.nil_append, List.getElem?_cons_zero, List.getElem?_cons_succ, List.set_cons_zero, List.set_cons_succ, Option.bind_some, Option.map_some, Option.bind_none, Option.map_none, asB_bl, if_true, if_false, Bool.false_eq_true, Bool.true_eq_false, o_add, o_sub, c_lt, c_le, c_gt, c_ge, c_is, c_isnt, isNon, c_eqi, c_nei, i_tup, i_lst, i_scr, i_sdc, s_tup, s_lst, b_lenT, b_lenL, b_tupL, b_tupT, b_sum, b_all, b_max, b_int, b_intB, b_abs, sr_tup, sr_lst, at0, at1, at2, at3, at4, at5, partI, wipeE, eq_self, decide_true, decide_false, Bool.and_true, Bool.true_and, Bool.and_false, Bool.false_and, Bool.or_false, Bool.false_or, Bool.or_true, Bool.true_or, if_and, if_or, z_src, z_len, z_tail, z_front, z_at0, z_last, z_one, wkt0, wkl0, wkm0, wkt1, wkl1, wkm1, wkt2, wkl2, wkm2, wkt3, wkl3, wkm3, wkt4, wkl4, wkm4, wkt5, wkl5, wkm5, wkt6, wkl6, wkm6, wkt7, wkl7, wkm7, wkt8, wkl8, wkm8, dk0, hne, hc0, Bool.not_true])]
      obtain ⟨v, k', h2, h3⟩ := cont 61
      rw [h2]
      exact ⟨v, k'.1, rfl, h3⟩
    | false =>
      have hp : 0 < k.cells.length := by
        cases hz : k.cells with
        | nil => rw [hz] at hc0; cases hc0
        | cons _ _ => simp
      have hr := emod_range (a := k.i) (m := (k.cells.length : Int)) (by omega)
      obtain ⟨j, hj⟩ := Int.eq_ofNat_of_zero_le hr.1
      have hj2 : j < k.cells.length := by omega
      have hix : atI (k.cells.map D.int) (k.i % (k.cells.length : Int)) = some (.int (k.cells[j])) := by
        rw [hj, atI_ofNat (by simpa using hj2), List.getElem?_map, List.getElem?_eq_getElem hj2]; rfl
      have hpos : (0 : Int) < (k.cells.length : Int) := by omega
      rw [exs_nx (e' := [some (.loc 0), some (.int m), none, some (.int k.cells[j]), none]) (M' := dC { k with d := k.d + 1 } :: tl) (by simp only [runB, outR, exs, ex, ev, evs, evo, evi, t_nm, t_tp, t_nil, t_cons, startE, List.map_cons, List.map_nil, List.length_cons, List.length_nil, Nat.reduceAdd, Nat.reduceSub, Nat.sub_self, List.replicate, List.append_nil, List.cons_append, List.nil_append, List.getElem?_cons_zero, List.getElem?_cons_succ, List.set_cons_zero, List.set_cons_succ, Option.bind_some, Option.map_some, Option.bind_none, Option.map_none, asB_bl, if_true, if_false, Bool.false_eq_true, Bool.true_eq_false, o_add, o_sub, c_lt, c_le, c_gt, c_ge, c_is, c_isnt, isNon, c_eqi, c_nei, i_tup, i_lst, i_scr, i_sdc, s_tup, s_lst, b_lenT, b_lenL, b_tupL, b_tupT, b_sum, b_all, b_max, b_int, b_intB, b_abs, sr_tup, sr_lst, at0, at1, at2, at3, at4, at5, partI, wipeE, eq_self, decide_true, decide_false, Bool.and_true, Bool.true_and, Bool.and_false, Bool.false_and, Bool.or_false, Bool.false_or, Bool.or_true, Bool.true_or, if_and, if_or, z_src, z_len, z_tail, z_front, z_at0, z_last, z_one, wkt0, wkl0, wkm0, wkt1, wkl1, wkm1, wkt2, wkl2, wkm2, wkt3, wkl3, wkm3, wkt4, wkl4, wkm4, wkt5, wkl5, wkm5, wkt6, wkl6, wkm6, wkt7, wkl7, wkm7, wkt8, wkl8, wkm8, dk0, hne, hc0, Bool.not_false, dk1, List.length_map, o_mod hpos, hix])]
      obtain ⟨v, k', h2, h3⟩ := cont k.cells[j]
      rw [h2]
      exact ⟨v, k'.1, rfl, h3⟩
end
end Wf
set_option Elab.async false
set_option linter.all false
set_option maxRecDepth 100000
set_option maxHeartbeats 4000000
namespace K37
open PySem PySem.Spec PyProof.Rows L2 Wf
def topS (i : Nat) : Stmt := PySem.Challenge.pw_wheelfill_k37_rules_gone_through.main.body.getD i (.Pass ⟨0, 0, 0, 0⟩)
def tb : List (Str × Gt) := [("lean", .fn 0 ["wheel", "loads"]),
  ("is_upright", .fn 1 ["wheel", "loads"]),
  ("boarded_loads", .fn 2 ["loads", "line"]),
  ("turned_loads", .fn 3 ["loads"]),
  ("may", .fn 4 ["wheel", "stand", "deed"]),
  ("after", .fn 5 ["wheel", "stand", "deed", "size"]),
  ("numbers_of", .fn 6 ["wheel", "stand"]),
  ("deed", .fn 7 ["wheel", "rule", "stand"]),
  ("run", .fn 8 ["wheel", "rule", "queue"]),
  ("_law_deck", .fn 9 ["_law_script"]),
  ("_law_draw", .fn 10 ["_law_deck_here", "_law_many"]),
  ("_law_one", .fn 11 ["_law_deck_here", "_law_items"]),
  ("_law_count", .fn 12 ["_law_weights", "_law_room", "_law_sizes", "_law_patience", "_law_look"]),
  ("_law_wheel", .fn 13 ["_law_deck_here", "_law_most"]),
  ("_law_lean", .fn 14 ["_law_wheel_here", "_law_loads"]),
  ("_law_fits", .fn 15 ["_law_wheel_here", "_law_loads"]),
  ("_law_behind", .fn 16 ["_law_wheel_here", "_law_stand", "_law_act"]),
  ("_law_rule", .fn 17 ["_law_deck_here", "_law_wheel_here"]),
  ("_law_deed_of", .fn 18 ["_law_wheel_here", "_law_rule_here", "_law_stand"]),
  ("_law_run", .fn 19 ["_law_wheel_here", "_law_rule_here", "_law_queue_here"]),
  ("_law_queue", .fn 20 ["_law_deck_here", "_law_wheel_here", "_law_most"]),
  ("law", .fn 21 ["_law_script"]),
  ("BOARD", .cst (.str "board"))]
def mu : List (Nat × Nat) := [(26, 12), (38, 61), (48, 11), (112, 17), (114, 21), (125, 19), (133, 136)]

def c_lean : List Sm := [(.ret (.bi .sum (.lc false [2, 3] (.tp [(.nm 2), (.nm 3)]) (.zip (.idx (.var 0) (.lit (.int (0)))) (.var 1)) none (.bin .mul false (.var 2) (.var 3)))))]
def f_lean : Fd := ⟨"lean", ["wheel", "loads"], ["wheel", "loads", "weight", "load"], c_lean, true⟩
def c_is_upright : List Sm := [(.asg (.tp [(.nm 2), (.nm 3)]) (.idx (.var 0) (.lit (.int (3))))),
  (.ret (.and (.cmp .le (.var 2) (.call 0 [(.var 0), (.var 1)])) (.cmp .le (.call 0 [(.var 0), (.var 1)]) (.var 3))))]
def f_is_upright : Fd := ⟨"is_upright", ["wheel", "loads"], ["wheel", "loads", "low", "high"], c_is_upright, true⟩
def c_boarded_loads : List Sm := [(.ret (.bin .add false (.tup [(.bin .add false (.idx (.var 0) (.lit (.int (0)))) (.idx (.var 1) (.lit (.int (0)))))]) (.slc false (.var 0) (some (.lit (.int (1)))) none)))]
def f_boarded_loads : Fd := ⟨"boarded_loads", ["loads", "line"], ["loads", "line"], c_boarded_loads, true⟩
def c_turned_loads : List Sm := [(.ret (.bin .add false (.tup [(.lit (.int (0)))]) (.slc false (.var 0) none (some (.neg (.lit (.int (1))))))))]
def f_turned_loads : Fd := ⟨"turned_loads", ["loads"], ["loads"], c_turned_loads, true⟩
def c_may : List Sm := [(.asg (.tp [(.nm 3), (.nm 4), (.nm 5)]) (.var 1)),
  (.ifs (.cmp .eq (.var 2) (.gl "BOARD" (.str "board"))) [(.ret (.and (.cmp .le (.bin .add false (.idx (.var 3) (.lit (.int (0)))) (.idx (.var 4) (.lit (.int (0))))) (.idx (.var 0) (.lit (.int (1))))) (.call 1 [(.var 0), (.call 2 [(.var 3), (.var 4)])])))] []),
  (.ret (.and (.cmp .lt (.var 5) (.idx (.var 0) (.lit (.int (4))))) (.call 1 [(.var 0), (.call 3 [(.var 3)])])))]
def f_may : Fd := ⟨"may", ["wheel", "stand", "deed"], ["wheel", "stand", "deed", "loads", "line", "waited"], c_may, true⟩
def c_after : List Sm := [(.asg (.tp [(.nm 4), (.nm 5), (.nm 6)]) (.var 1)),
  (.ifs (.cmp .eq (.var 2) (.gl "BOARD" (.str "board"))) [(.ret (.tup [(.call 2 [(.var 4), (.var 5)]), (.bin .add false (.slc false (.var 5) (some (.lit (.int (1)))) none) (.tup [(.var 3)])), (.lit (.int (0)))]))] []),
  (.ret (.tup [(.call 3 [(.var 4)]), (.var 5), (.bin .add false (.var 6) (.lit (.int (1))))]))]
def f_after : Fd := ⟨"after", ["wheel", "stand", "deed", "size"], ["wheel", "stand", "deed", "size", "loads", "line", "waited"], c_after, true⟩
def c_numbers_of : List Sm := [(.asg (.tp [(.nm 2), (.nm 3), (.nm 4)]) (.var 1)),
  (.asg (.nm 5) (.dis true ["load", "head", "waited", "lean"] [(.idx (.var 2) (.lit (.int (0)))), (.idx (.var 3) (.lit (.int (0)))), (.var 4), (.call 0 [(.var 0), (.var 2)])])),
  (.sub (.var 5) (.lit (.str "ahead")) (.call 0 [(.var 0), (.call 3 [(.var 2)])])),
  (.ret (.var 5))]
def f_numbers_of : Fd := ⟨"numbers_of", ["wheel", "stand"], ["wheel", "stand", "loads", "line", "waited", "found"], c_numbers_of, true⟩
def c_deed : List Sm := [(.asg (.nm 3) (.call 6 [(.var 0), (.var 2)])),
  (.fr (.tp [(.nm 4), (.nm 5)]) (.seq (.var 1)) [(.ifs (.bi .all (.lc false [6, 7, 8] (.tp [(.nm 6), (.nm 7), (.nm 8)]) (.seq (.var 4)) none (.and (.cmp .le (.var 7) (.idx (.var 3) (.var 6))) (.cmp .le (.idx (.var 3) (.var 6)) (.var 8))))) [(.ifs (.call 4 [(.var 0), (.var 2), (.var 5)]) [(.ret (.var 5))] [])] [])]),
  (.ret (.lit .non))]
def f_deed : Fd := ⟨"deed", ["wheel", "rule", "stand"], ["wheel", "rule", "stand", "numbers", "tests", "act", "what", "low", "high"], c_deed, true⟩
def c_run : List Sm := [(.asg (.nm 3) (.idx (.var 0) (.lit (.int (5))))),
  (.asg (.tp [(.nm 4), (.nm 5)]) (.tup [(.tup [(.bin .mul false (.tup [(.lit (.int (0)))]) (.bi .len (.idx (.var 0) (.lit (.int (0)))))), (.slc false (.var 2) none (some (.var 3))), (.lit (.int (0)))]), (.lst true [])])),
  (.whl (.lit (.bl true)) [(.asg (.nm 6) (.call 7 [(.var 0), (.var 1), (.var 4)])),
  (.ex (.app (.var 5) (.tup [(.var 4), (.var 6)]))),
  (.ifs (.or (.cmp .is (.var 6) (.lit .non)) (.and (.cmp .eq (.var 6) (.gl "BOARD" (.str "board"))) (.cmp .eq (.var 3) (.bi .len (.var 2))))) [(.ret (.bi .tuple (.var 5)))] []),
  (.asg (.nm 4) (.call 5 [(.var 0), (.var 4), (.var 6), (.ife (.cmp .eq (.var 6) (.gl "BOARD" (.str "board"))) (.idx (.var 2) (.var 3)) (.lit (.int (0))))])),
  (.asg (.nm 3) (.bin .add false (.var 3) (.bi .int (.cmp .eq (.var 6) (.gl "BOARD" (.str "board"))))))])]
def f_run : Fd := ⟨"run", ["wheel", "rule", "queue"], ["wheel", "rule", "queue", "seen", "stand", "found", "act"], c_run, true⟩
def c__law_deck : List Sm := [(.ret (.lst true [(.bi (.list false) (.slc false (.var 0) none (some (.lit (.int (63)))))), (.lit (.int (0))), (.lit (.int (0))), (.lit (.int (0)))]))]
def f__law_deck : Fd := ⟨"_law_deck", ["_law_script"], ["_law_script"], c__law_deck, false⟩
def c__law_draw : List Sm := [(.sub (.var 0) (.lit (.int (3))) (.bin .add false (.idx (.var 0) (.lit (.int (3)))) (.lit (.int (1))))),
  (.ifs (.cmp .gt (.idx (.var 0) (.lit (.int (2)))) (.lit (.int (0)))) [(.asg (.nm 2) (.bin .mod false (.bi .int (.idx (.var 0) (.lit (.int (2))))) (.var 1))),
  (.sub (.var 0) (.lit (.int (2))) (.bin .fdiv false (.idx (.var 0) (.lit (.int (2)))) (.var 1))),
  (.ret (.var 2))] []),
  (.asg (.nm 3) (.lit (.int (61)))),
  (.ifs (.cmp .ne (.idx (.var 0) (.lit (.int (0)))) (.lst false [])) [(.asg (.nm 3) (.idx (.idx (.var 0) (.lit (.int (0)))) (.bin .mod false (.bi .int (.idx (.var 0) (.lit (.int (1))))) (.bi .len (.idx (.var 0) (.lit (.int (0))))))))] []),
  (.sub (.var 0) (.lit (.int (1))) (.bin .add false (.idx (.var 0) (.lit (.int (1)))) (.lit (.int (1))))),
  (.ifs (.and (.cmp .ge (.bi .abs (.var 3)) (.bin .pow false (.lit (.int (10))) (.lit (.int (18))))) (.cmp .le (.idx (.var 0) (.lit (.int (1)))) (.bi .len (.idx (.var 0) (.lit (.int (0))))))) [(.sub (.var 0) (.lit (.int (2))) (.bin .fdiv false (.bi .abs (.var 3)) (.var 1))),
  (.ret (.bin .mod false (.bi .int (.bi .abs (.var 3))) (.var 1)))] []),
  (.asg (.nm 4) (.bin .mod false (.bin .pow false (.bi .int (.bin .add false (.bin .mod false (.bi .int (.var 3)) (.lit (.int (2147483629)))) (.bin .mul false (.lit (.int (49979687))) (.idx (.var 0) (.lit (.int (3))))))) (.lit (.int (5)))) (.lit (.int (2147483647))))),
  (.asg (.nm 4) (.bin .mod false (.bin .pow false (.bi .int (.bin .add false (.bin .mul false (.var 4) (.bin .add false (.bin .mul false (.lit (.int (2))) (.idx (.var 0) (.lit (.int (3))))) (.lit (.int (3))))) (.lit (.int (8887))))) (.lit (.int (3)))) (.lit (.int (2147483587))))),
  (.ret (.bin .mod false (.bin .fdiv false (.var 4) (.lit (.int (64)))) (.var 1)))]
def f__law_draw : Fd := ⟨"_law_draw", ["_law_deck_here", "_law_many"], ["_law_deck_here", "_law_many", "_law_found", "_law_cell", "_law_mixed"], c__law_draw, false⟩
def c__law_one : List Sm := [(.ret (.idx (.var 1) (.call 10 [(.var 0), (.bi .len (.var 1))])))]
def f__law_one : Fd := ⟨"_law_one", ["_law_deck_here", "_law_items"], ["_law_deck_here", "_law_items"], c__law_one, false⟩
def c__law_count : List Sm := [(.asg (.nm 5) (.bin .add false (.var 3) (.lit (.int (1))))),
  (.fr (.nm 6) (.seq (.var 0)) [(.asg (.nm 5) (.bin .mul false (.var 5) (.bin .add false (.var 1) (.lit (.int (1))))))]),
  (.fr (.nm 7) (.rng1 (.var 4)) [(.asg (.nm 5) (.bin .mul false (.var 5) (.bi .len (.var 2))))]),
  (.ret (.var 5))]
def f__law_count : Fd := ⟨"_law_count", ["_law_weights", "_law_room", "_law_sizes", "_law_patience", "_law_look"], ["_law_weights", "_law_room", "_law_sizes", "_law_patience", "_law_look", "_law_found", "_law_place", "_law_k"], c__law_count, true⟩
def c__law_wheel : List Sm := [(.asg (.nm 2) (.call 11 [(.var 0), (.lst false [(.lit (.int (1))), (.lit (.int (2))), (.lit (.int (2))), (.lit (.int (2))), (.lit (.int (3))), (.lit (.int (4)))])])),
  (.asg (.nm 3) (.bi .tuple (.lc false [4] (.nm 4) (.rng2 (.lit (.int (1))) (.bin .add false (.var 2) (.lit (.int (1))))) (some (.cmp .gt (.call 10 [(.var 0), (.lit (.int (3)))]) (.lit (.int (0))))) (.var 4)))),
  (.asg (.nm 3) (.ife (.cmp .ne (.var 3) (.tup [])) (.var 3) (.tup [(.bin .add false (.lit (.int (1))) (.call 10 [(.var 0), (.var 2)]))]))),
  (.asg (.tp [(.nm 5), (.nm 6)]) (.tup [(.call 11 [(.var 0), (.lst false [(.lit (.int (1))), (.lit (.int (1))), (.lit (.int (2))), (.lit (.int (2))), (.lit (.int (3))), (.bin .add false (.lit (.int (1))) (.call 10 [(.var 0), (.lit (.int (6)))]))])]), (.call 11 [(.var 0), (.lst false [(.lit (.int (1))), (.lit (.int (1))), (.lit (.int (1))), (.lit (.int (2))), (.lit (.int (3)))])])])),
  (.asg (.nm 7) (.call 11 [(.var 0), (.lst false [(.lit (.int (1))), (.lit (.int (1))), (.lit (.int (2))), (.lit (.int (9)))])])),
  (.asg (.nm 8) (.lc false [9] (.nm 9) (.rng1 (.call 11 [(.var 0), (.lst false [(.lit (.int (2))), (.lit (.int (3))), (.lit (.int (3))), (.lit (.int (4))), (.lit (.int (5))), (.lit (.int (6)))])])) none (.bin .sub false (.call 10 [(.var 0), (.bin .add false (.bin .mul false (.lit (.int (2))) (.var 7)) (.lit (.int (1))))]) (.var 7)))),
  (.whl (.and (.cmp .gt (.bi .len (.var 8)) (.lit (.int (2)))) (.cmp .gt (.call 12 [(.var 8), (.var 2), (.var 3), (.var 5), (.var 6)]) (.var 1))) [(.asg (.nm 8) (.slc false (.var 8) none (some (.neg (.lit (.int (1)))))))]),
  (.ifs (.cmp .gt (.call 12 [(.var 8), (.var 2), (.var 3), (.var 5), (.var 6)]) (.var 1)) [(.asg (.tp [(.nm 5), (.nm 6)]) (.tup [(.lit (.int (1))), (.lit (.int (1)))]))] []),
  (.asg (.nm 10) (.call 11 [(.var 0), (.lst false [(.lit (.int (2))), (.lit (.int (4))), (.lit (.int (8))), (.lit (.int (30)))])])),
  (.asg (.nm 11) (.tup [(.bin .sub false (.lit (.int (0))) (.call 10 [(.var 0), (.var 10)])), (.call 10 [(.var 0), (.var 10)])])),
  (.ret (.tup [(.bi .tuple (.var 8)), (.var 2), (.var 3), (.var 11), (.var 5), (.var 6)]))]
def f__law_wheel : Fd := ⟨"_law_wheel", ["_law_deck_here", "_law_most"], ["_law_deck_here", "_law_most", "_law_room", "_law_sizes", "_law_size", "_law_patience", "_law_look", "_law_wide", "_law_weights", "_law_place", "_law_far", "_law_bounds"], c__law_wheel, false⟩
def c__law_lean : List Sm := [(.ret (.bi .sum (.lc false [2, 3] (.tp [(.nm 2), (.nm 3)]) (.zip (.idx (.var 0) (.lit (.int (0)))) (.var 1)) none (.bin .mul false (.var 2) (.var 3)))))]
def f__law_lean : Fd := ⟨"_law_lean", ["_law_wheel_here", "_law_loads"], ["_law_wheel_here", "_law_loads", "_law_weight", "_law_load"], c__law_lean, true⟩
def c__law_fits : List Sm := [(.ifs (.cmp .gt (.bi .max (.lc false [2] (.nm 2) (.seq (.var 1)) none (.bi .int (.var 2)))) (.idx (.var 0) (.lit (.int (1))))) [(.ret (.lit (.bl false)))] []),
  (.ret (.chn .le .le (.idx (.idx (.var 0) (.lit (.int (3)))) (.lit (.int (0)))) (.call 14 [(.var 0), (.var 1)]) (.idx (.idx (.var 0) (.lit (.int (3)))) (.lit (.int (1))))))]
def f__law_fits : Fd := ⟨"_law_fits", ["_law_wheel_here", "_law_loads"], ["_law_wheel_here", "_law_loads", "_law_load"], c__law_fits, true⟩
def c__law_behind : List Sm := [(.asg (.tp [(.nm 3), (.nm 4), (.nm 5)]) (.var 1)),
  (.ifs (.cmp .eq (.var 2) (.lit (.str "turn"))) [(.asg (.nm 6) (.bin .add false (.tup [(.lit (.int (0)))]) (.slc false (.var 3) none (some (.neg (.lit (.int (1)))))))),
  (.ret (.ife (.and (.cmp .lt (.var 5) (.idx (.var 0) (.lit (.int (4))))) (.call 15 [(.var 0), (.var 6)])) (.tup [(.tup [(.var 6), (.var 4), (.bin .add false (.var 5) (.lit (.int (1))))])]) (.tup [])))] []),
  (.asg (.nm 6) (.bin .add false (.tup [(.bin .add false (.idx (.var 3) (.lit (.int (0)))) (.idx (.var 4) (.lit (.int (0)))))]) (.slc false (.var 3) (some (.lit (.int (1)))) none))),
  (.ifs (.not (.call 15 [(.var 0), (.var 6)])) [(.ret (.tup []))] []),
  (.ret (.bi .tuple (.lc false [7] (.nm 7) (.seq (.idx (.var 0) (.lit (.int (2))))) none (.tup [(.var 6), (.bin .add false (.slc false (.var 4) (some (.lit (.int (1)))) none) (.tup [(.var 7)])), (.lit (.int (0)))]))))]
def f__law_behind : Fd := ⟨"_law_behind", ["_law_wheel_here", "_law_stand", "_law_act"], ["_law_wheel_here", "_law_stand", "_law_act", "_law_loads", "_law_line", "_law_waited", "_law_later", "_law_size"], c__law_behind, true⟩
def c__law_rule : List Sm := [(.asg (.nm 2) (.lst true [])),
  (.fr (.nm 3) (.rng1 (.call 10 [(.var 0), (.lit (.int (4)))])) [(.asg (.nm 4) (.lst true [])),
  (.fr (.nm 5) (.rng1 (.call 10 [(.var 0), (.lit (.int (3)))])) [(.asg (.nm 6) (.call 11 [(.var 0), (.lst false [(.lit (.str "load")), (.lit (.str "head")), (.lit (.str "waited")), (.lit (.str "lean")), (.lit (.str "ahead"))])])),
  (.asg (.nm 7) (.bin .sub false (.call 10 [(.var 0), (.lit (.int (5)))]) (.call 11 [(.var 0), (.lst false [(.lit (.int (0))), (.lit (.int (0))), (.lit (.int (0))), (.lit (.int (2))), (.lit (.int (9))), (.neg (.lit (.int (40)))), (.lit (.int (60))), (.bin .pow false (.lit (.int (10))) (.lit (.int (30))))])]))),
  (.asg (.nm 8) (.call 11 [(.var 0), (.lst false [(.call 10 [(.var 0), (.lit (.int (4)))]), (.call 10 [(.var 0), (.lit (.int (4)))]), (.lit (.int (10))), (.lit (.int (130))), (.bin .mul false (.lit (.int (2))) (.bin .pow false (.lit (.int (10))) (.lit (.int (30)))))])])),
  (.ex (.app (.var 4) (.tup [(.var 6), (.var 7), (.bin .add false (.var 7) (.var 8))])))]),
  (.ex (.app (.var 2) (.tup [(.bi .tuple (.var 4)), (.call 11 [(.var 0), (.lst false [(.lit (.str "board")), (.lit (.str "turn"))])])])))]),
  (.asg (.nm 9) (.lst false [(.lst false []), (.lst false [(.tup [(.tup []), (.lit (.str "board"))])]), (.lst false [(.tup [(.tup []), (.lit (.str "board"))]), (.tup [(.tup []), (.lit (.str "turn"))])]), (.lst false [(.tup [(.tup []), (.lit (.str "turn"))]), (.tup [(.tup []), (.lit (.str "board"))])])])),
  (.ret (.bi .tuple (.bin .add false (.var 2) (.call 11 [(.var 0), (.bin .add false (.var 9) (.slc false (.var 9) (some (.lit (.int (2)))) none))]))))]
def f__law_rule : Fd := ⟨"_law_rule", ["_law_deck_here", "_law_wheel_here"], ["_law_deck_here", "_law_wheel_here", "_law_found", "_law_k", "_law_tests", "_law_more", "_law_what", "_law_low", "_law_wide", "_law_ends"], c__law_rule, false⟩
def c__law_deed_of : List Sm := [(.asg (.tp [(.nm 3), (.nm 4), (.nm 5)]) (.var 2)),
  (.asg (.nm 6) (.dis true ["load", "head", "waited", "lean"] [(.idx (.var 3) (.lit (.int (0)))), (.idx (.var 4) (.lit (.int (0)))), (.var 5), (.call 14 [(.var 0), (.var 3)])])),
  (.sub (.var 6) (.lit (.str "ahead")) (.call 14 [(.var 0), (.bin .add false (.tup [(.lit (.int (0)))]) (.slc false (.var 3) none (some (.neg (.lit (.int (1)))))))])),
  (.fr (.tp [(.nm 7), (.nm 8)]) (.seq (.var 1)) [(.asg (.nm 9) (.lc false [10, 11, 12] (.tp [(.nm 10), (.nm 11), (.nm 12)]) (.seq (.var 7)) (some (.not (.chn .le .le (.var 11) (.idx (.var 6) (.var 10)) (.var 12)))) (.var 10))),
  (.ifs (.and (.cmp .eq (.var 9) (.lst false [])) (.cmp .ne (.call 16 [(.var 0), (.var 2), (.var 8)]) (.tup []))) [(.ret (.var 8))] [])]),
  (.ret (.lit .non))]
def f__law_deed_of : Fd := ⟨"_law_deed_of", ["_law_wheel_here", "_law_rule_here", "_law_stand"], ["_law_wheel_here", "_law_rule_here", "_law_stand", "_law_loads", "_law_line", "_law_waited", "_law_numbers", "_law_tests", "_law_act", "_law_wrong", "_law_what", "_law_low", "_law_high"], c__law_deed_of, true⟩
def c__law_run : List Sm := [(.asg (.tp [(.nm 3), (.nm 4), (.nm 5)]) (.tup [(.tup [(.bin .mul false (.tup [(.lit (.int (0)))]) (.bi .len (.idx (.var 0) (.lit (.int (0)))))), (.slc false (.var 2) none (some (.idx (.var 0) (.lit (.int (5)))))), (.lit (.int (0)))]), (.idx (.var 0) (.lit (.int (5)))), (.lst true [])])),
  (.whl (.lit (.bl true)) [(.asg (.nm 6) (.call 18 [(.var 0), (.var 1), (.var 3)])),
  (.ex (.app (.var 5) (.tup [(.var 3), (.var 6)]))),
  (.ifs (.or (.cmp .is (.var 6) (.lit .non)) (.and (.cmp .eq (.var 6) (.lit (.str "board"))) (.cmp .eq (.var 4) (.bi .len (.var 2))))) [(.ret (.var 5))] []),
  (.asg (.nm 7) (.call 16 [(.var 0), (.var 3), (.var 6)])),
  (.ifs (.cmp .eq (.var 6) (.lit (.str "turn"))) [(.asg (.nm 3) (.idx (.var 7) (.lit (.int (0)))))] [(.asg (.nm 3) (.idx (.lc false [8] (.nm 8) (.seq (.var 7)) (some (.cmp .eq (.idx (.idx (.var 8) (.lit (.int (1)))) (.neg (.lit (.int (1))))) (.idx (.var 2) (.var 4)))) (.var 8)) (.lit (.int (0))))),
  (.asg (.nm 4) (.bin .add false (.var 4) (.lit (.int (1)))))])])]
def f__law_run : Fd := ⟨"_law_run", ["_law_wheel_here", "_law_rule_here", "_law_queue_here"], ["_law_wheel_here", "_law_rule_here", "_law_queue_here", "_law_stand", "_law_seen", "_law_found", "_law_act", "_law_every", "_law_one_here"], c__law_run, true⟩
def c__law_queue : List Sm := [(.asg (.nm 3) (.bin .add false (.idx (.var 1) (.lit (.int (5)))) (.call 10 [(.var 0), (.var 2)]))),
  (.ret (.bi .tuple (.lc false [4] (.nm 4) (.rng1 (.var 3)) none (.call 11 [(.var 0), (.idx (.var 1) (.lit (.int (2))))]))))]
def f__law_queue : Fd := ⟨"_law_queue", ["_law_deck_here", "_law_wheel_here", "_law_most"], ["_law_deck_here", "_law_wheel_here", "_law_most", "_law_many", "_law_k"], c__law_queue, false⟩
def c_law : List Sm := [(.asg (.nm 1) (.call 9 [(.var 0)])),
  (.fr (.nm 2) (.rng1 (.lit (.int (6)))) [(.asg (.nm 3) (.call 13 [(.var 1), (.lit (.int (1000)))])),
  (.fr (.nm 4) (.rng1 (.lit (.int (3)))) [(.asg (.tp [(.nm 5), (.nm 6)]) (.tup [(.call 17 [(.var 1), (.var 3)]), (.call 20 [(.var 1), (.var 3), (.lit (.int (21)))])])),
  (.asg (.tp [(.nm 7), (.nm 8)]) (.tup [(.bi .repr (.lst false [(.var 3), (.var 5), (.var 6)])), (.call 8 [(.var 3), (.var 5), (.var 6)])])),
  (.ifs (.cmp .ne (.bi .repr (.var 8)) (.bi .repr (.bi .tuple (.call 19 [(.var 3), (.var 5), (.var 6)])))) [(.ret (.lit (.bl false)))] []),
  (.asg (.nm 9) (.call 8 [(.var 3), (.var 5), (.bin .add false (.var 6) (.tup [(.call 11 [(.var 1), (.idx (.var 3) (.lit (.int (2))))])]))])),
  (.ifs (.or (.cmp .ne (.slc false (.var 9) none (some (.bi .len (.var 8)))) (.var 8)) (.and (.cmp .is (.idx (.idx (.var 8) (.neg (.lit (.int (1))))) (.lit (.int (1)))) (.lit .non)) (.cmp .ne (.var 9) (.var 8)))) [(.ret (.lit (.bl false)))] []),
  (.ifs (.cmp .ne (.bi .repr (.lst false [(.var 3), (.var 5), (.var 6)])) (.var 7)) [(.ret (.lit (.bl false)))] [])])]),
  (.asg (.tp [(.nm 3), (.nm 5)]) (.tup [(.tup [(.tup [(.lit (.int (0))), (.lit (.int (0)))]), (.lit (.int (1))), (.tup [(.lit (.int (1)))]), (.tup [(.lit (.int (0))), (.lit (.int (0)))]), (.lit (.int (1))), (.lit (.int (1)))]), (.tup [(.tup [(.tup [(.tup [(.lit (.str "load")), (.lit (.int (0))), (.lit (.int (0)))])]), (.lit (.str "board"))]), (.tup [(.tup []), (.lit (.str "turn"))])])])),
  (.asg (.nm 6) (.bin .mul false (.tup [(.lit (.int (1)))]) (.bin .add false (.lit (.int (1500))) (.call 10 [(.var 1), (.lit (.int (500)))])))),
  (.ret (.cmp .eq (.call 8 [(.var 3), (.var 5), (.var 6)]) (.bi .tuple (.call 19 [(.var 3), (.var 5), (.var 6)]))))]
def f_law : Fd := ⟨"law", ["_law_script"], ["_law_script", "_law_deck_here", "_law_turn_more", "_law_wheel_here", "_law_again", "_law_rule_here", "_law_queue_here", "_law_held", "_law_found", "_law_longer"], c_law, false⟩


def defs : List Fd := [f_lean, f_is_upright, f_boarded_loads, f_turned_loads, f_may, f_after, f_numbers_of, f_deed, f_run, f__law_deck, f__law_draw, f__law_one, f__law_count, f__law_wheel, f__law_lean, f__law_fits, f__law_behind, f__law_rule, f__law_deed_of, f__law_run, f__law_queue, f_law]
theorem s_lean : FnScope f_lean.N f_lean.ps (defScope (topS 1)) := ⟨rfl, rfl, rfl, by decide +kernel, rfl, by decide +kernel, by decide +kernel⟩
theorem e_lean : mapO (compS ⟨f_lean.N, tb, mu⟩ 40 (defScope (topS 1))) (defBody (topS 1)) = some f_lean.code := rfl
theorem s_is_upright : FnScope f_is_upright.N f_is_upright.ps (defScope (topS 2)) := ⟨rfl, rfl, rfl, by decide +kernel, rfl, by decide +kernel, by decide +kernel⟩
theorem e_is_upright : mapO (compS ⟨f_is_upright.N, tb, mu⟩ 40 (defScope (topS 2))) (defBody (topS 2)) = some f_is_upright.code := rfl
theorem s_boarded_loads : FnScope f_boarded_loads.N f_boarded_loads.ps (defScope (topS 5)) := ⟨rfl, rfl, rfl, by decide +kernel, rfl, by decide +kernel, by decide +kernel⟩
theorem e_boarded_loads : mapO (compS ⟨f_boarded_loads.N, tb, mu⟩ 40 (defScope (topS 5))) (defBody (topS 5)) = some f_boarded_loads.code := rfl
theorem s_turned_loads : FnScope f_turned_loads.N f_turned_loads.ps (defScope (topS 6)) := ⟨rfl, rfl, rfl, by decide +kernel, rfl, by decide +kernel, by decide +kernel⟩
theorem e_turned_loads : mapO (compS ⟨f_turned_loads.N, tb, mu⟩ 40 (defScope (topS 6))) (defBody (topS 6)) = some f_turned_loads.code := rfl
theorem s_may : FnScope f_may.N f_may.ps (defScope (topS 7)) := ⟨rfl, rfl, rfl, by decide +kernel, rfl, by decide +kernel, by decide +kernel⟩
theorem e_may : mapO (compS ⟨f_may.N, tb, mu⟩ 40 (defScope (topS 7))) (defBody (topS 7)) = some f_may.code := rfl
theorem s_after : FnScope f_after.N f_after.ps (defScope (topS 8)) := ⟨rfl, rfl, rfl, by decide +kernel, rfl, by decide +kernel, by decide +kernel⟩
theorem e_after : mapO (compS ⟨f_after.N, tb, mu⟩ 40 (defScope (topS 8))) (defBody (topS 8)) = some f_after.code := rfl
theorem s_numbers_of : FnScope f_numbers_of.N f_numbers_of.ps (defScope (topS 10)) := ⟨rfl, rfl, rfl, by decide +kernel, rfl, by decide +kernel, by decide +kernel⟩
theorem e_numbers_of : mapO (compS ⟨f_numbers_of.N, tb, mu⟩ 40 (defScope (topS 10))) (defBody (topS 10)) = some f_numbers_of.code := rfl
theorem s_deed : FnScope f_deed.N f_deed.ps (defScope (topS 11)) := ⟨rfl, rfl, rfl, by decide +kernel, rfl, by decide +kernel, by decide +kernel⟩
theorem e_deed : mapO (compS ⟨f_deed.N, tb, mu⟩ 40 (defScope (topS 11))) (defBody (topS 11)) = some f_deed.code := rfl
theorem s_run : FnScope f_run.N f_run.ps (defScope (topS 12)) := ⟨rfl, rfl, rfl, by decide +kernel, rfl, by decide +kernel, by decide +kernel⟩
theorem e_run : mapO (compS ⟨f_run.N, tb, mu⟩ 40 (defScope (topS 12))) (defBody (topS 12)) = some f_run.code := rfl
theorem s__law_deck : FnScope f__law_deck.N f__law_deck.ps (defScope (topS 14)) := ⟨rfl, rfl, rfl, by decide +kernel, rfl, by decide +kernel, by decide +kernel⟩
theorem e__law_deck : mapO (compS ⟨f__law_deck.N, tb, mu⟩ 40 (defScope (topS 14))) (defBody (topS 14)) = some f__law_deck.code := rfl
theorem s__law_draw : FnScope f__law_draw.N f__law_draw.ps (defScope (topS 15)) := ⟨rfl, rfl, rfl, by decide +kernel, rfl, by decide +kernel, by decide +kernel⟩
theorem e__law_draw : mapO (compS ⟨f__law_draw.N, tb, mu⟩ 40 (defScope (topS 15))) (defBody (topS 15)) = some f__law_draw.code := rfl
theorem s__law_one : FnScope f__law_one.N f__law_one.ps (defScope (topS 16)) := ⟨rfl, rfl, rfl, by decide +kernel, rfl, by decide +kernel, by decide +kernel⟩
theorem e__law_one : mapO (compS ⟨f__law_one.N, tb, mu⟩ 40 (defScope (topS 16))) (defBody (topS 16)) = some f__law_one.code := rfl
theorem s__law_count : FnScope f__law_count.N f__law_count.ps (defScope (topS 17)) := ⟨rfl, rfl, rfl, by decide +kernel, rfl, by decide +kernel, by decide +kernel⟩
theorem e__law_count : mapO (compS ⟨f__law_count.N, tb, mu⟩ 40 (defScope (topS 17))) (defBody (topS 17)) = some f__law_count.code := rfl
theorem s__law_wheel : FnScope f__law_wheel.N f__law_wheel.ps (defScope (topS 18)) := ⟨rfl, rfl, rfl, by decide +kernel, rfl, by decide +kernel, by decide +kernel⟩
theorem e__law_wheel : mapO (compS ⟨f__law_wheel.N, tb, mu⟩ 40 (defScope (topS 18))) (defBody (topS 18)) = some f__law_wheel.code := rfl
theorem s__law_lean : FnScope f__law_lean.N f__law_lean.ps (defScope (topS 19)) := ⟨rfl, rfl, rfl, by decide +kernel, rfl, by decide +kernel, by decide +kernel⟩
theorem e__law_lean : mapO (compS ⟨f__law_lean.N, tb, mu⟩ 40 (defScope (topS 19))) (defBody (topS 19)) = some f__law_lean.code := rfl
theorem s__law_fits : FnScope f__law_fits.N f__law_fits.ps (defScope (topS 20)) := ⟨rfl, rfl, rfl, by decide +kernel, rfl, by decide +kernel, by decide +kernel⟩
theorem e__law_fits : mapO (compS ⟨f__law_fits.N, tb, mu⟩ 40 (defScope (topS 20))) (defBody (topS 20)) = some f__law_fits.code := rfl
theorem s__law_behind : FnScope f__law_behind.N f__law_behind.ps (defScope (topS 22)) := ⟨rfl, rfl, rfl, by decide +kernel, rfl, by decide +kernel, by decide +kernel⟩
theorem e__law_behind : mapO (compS ⟨f__law_behind.N, tb, mu⟩ 40 (defScope (topS 22))) (defBody (topS 22)) = some f__law_behind.code := rfl
theorem s__law_rule : FnScope f__law_rule.N f__law_rule.ps (defScope (topS 23)) := ⟨rfl, rfl, rfl, by decide +kernel, rfl, by decide +kernel, by decide +kernel⟩
theorem e__law_rule : mapO (compS ⟨f__law_rule.N, tb, mu⟩ 40 (defScope (topS 23))) (defBody (topS 23)) = some f__law_rule.code := rfl
theorem s__law_deed_of : FnScope f__law_deed_of.N f__law_deed_of.ps (defScope (topS 24)) := ⟨rfl, rfl, rfl, by decide +kernel, rfl, by decide +kernel, by decide +kernel⟩
theorem e__law_deed_of : mapO (compS ⟨f__law_deed_of.N, tb, mu⟩ 40 (defScope (topS 24))) (defBody (topS 24)) = some f__law_deed_of.code := rfl
theorem s__law_run : FnScope f__law_run.N f__law_run.ps (defScope (topS 25)) := ⟨rfl, rfl, rfl, by decide +kernel, rfl, by decide +kernel, by decide +kernel⟩
theorem e__law_run : mapO (compS ⟨f__law_run.N, tb, mu⟩ 40 (defScope (topS 25))) (defBody (topS 25)) = some f__law_run.code := rfl
theorem s__law_queue : FnScope f__law_queue.N f__law_queue.ps (defScope (topS 26)) := ⟨rfl, rfl, rfl, by decide +kernel, rfl, by decide +kernel, by decide +kernel⟩
theorem e__law_queue : mapO (compS ⟨f__law_queue.N, tb, mu⟩ 40 (defScope (topS 26))) (defBody (topS 26)) = some f__law_queue.code := rfl
theorem s_law : FnScope f_law.N f_law.ps (defScope (topS 27)) := ⟨rfl, rfl, rfl, by decide +kernel, rfl, by decide +kernel, by decide +kernel⟩
theorem e_law : mapO (compS ⟨f_law.N, tb, mu⟩ 40 (defScope (topS 27))) (defBody (topS 27)) = some f_law.code := rfl
theorem tb_ok : tbChk defs tb = true := by decide +kernel
theorem cs_ok : strCst tb = ([(("BOARD" : Str), some ("board" : Str))] : List (Str × Option Str)) := by decide +kernel
theorem all_mk {l : PySem.W.OpenLaw} {w : World} {K : PySem.W.Frag} {h : Heap} {mg : Str → Option Value} {fa : Addr} {ca : Nat → Addr} {dk : Obj → List (V × V) → Prop} {W n : Nat} (X : K.In h) (G : h.Ns mainGlobals mg) (hfa : mg "law" = some (.ref fa))
    {f_lean' : Addr} {od_lean an_lean : Option Addr} {sl_lean : Array (Option Value)} {oc_lean kV_lean dc_lean pm_lean cd_lean ct_lean : Value}
    {f_is_upright' : Addr} {od_is_upright an_is_upright : Option Addr} {sl_is_upright : Array (Option Value)} {oc_is_upright kV_is_upright dc_is_upright pm_is_upright cd_is_upright ct_is_upright : Value}
    {f_boarded_loads' : Addr} {od_boarded_loads an_boarded_loads : Option Addr} {sl_boarded_loads : Array (Option Value)} {oc_boarded_loads kV_boarded_loads dc_boarded_loads pm_boarded_loads cd_boarded_loads ct_boarded_loads : Value}
    {f_turned_loads' : Addr} {od_turned_loads an_turned_loads : Option Addr} {sl_turned_loads : Array (Option Value)} {oc_turned_loads kV_turned_loads dc_turned_loads pm_turned_loads cd_turned_loads ct_turned_loads : Value}
    {f_may' : Addr} {od_may an_may : Option Addr} {sl_may : Array (Option Value)} {oc_may kV_may dc_may pm_may cd_may ct_may : Value}
    {f_after' : Addr} {od_after an_after : Option Addr} {sl_after : Array (Option Value)} {oc_after kV_after dc_after pm_after cd_after ct_after : Value}
    {f_numbers_of' : Addr} {od_numbers_of an_numbers_of : Option Addr} {sl_numbers_of : Array (Option Value)} {oc_numbers_of kV_numbers_of dc_numbers_of pm_numbers_of cd_numbers_of ct_numbers_of : Value}
    {f_deed' : Addr} {od_deed an_deed : Option Addr} {sl_deed : Array (Option Value)} {oc_deed kV_deed dc_deed pm_deed cd_deed ct_deed : Value}
    {f_run' : Addr} {od_run an_run : Option Addr} {sl_run : Array (Option Value)} {oc_run kV_run dc_run pm_run cd_run ct_run : Value}
    {f__law_deck' : Addr} {od__law_deck an__law_deck : Option Addr} {sl__law_deck : Array (Option Value)} {oc__law_deck kV__law_deck dc__law_deck pm__law_deck cd__law_deck ct__law_deck : Value}
    {f__law_draw' : Addr} {od__law_draw an__law_draw : Option Addr} {sl__law_draw : Array (Option Value)} {oc__law_draw kV__law_draw dc__law_draw pm__law_draw cd__law_draw ct__law_draw : Value}
    {f__law_one' : Addr} {od__law_one an__law_one : Option Addr} {sl__law_one : Array (Option Value)} {oc__law_one kV__law_one dc__law_one pm__law_one cd__law_one ct__law_one : Value}
    {f__law_count' : Addr} {od__law_count an__law_count : Option Addr} {sl__law_count : Array (Option Value)} {oc__law_count kV__law_count dc__law_count pm__law_count cd__law_count ct__law_count : Value}
    {f__law_wheel' : Addr} {od__law_wheel an__law_wheel : Option Addr} {sl__law_wheel : Array (Option Value)} {oc__law_wheel kV__law_wheel dc__law_wheel pm__law_wheel cd__law_wheel ct__law_wheel : Value}
    {f__law_lean' : Addr} {od__law_lean an__law_lean : Option Addr} {sl__law_lean : Array (Option Value)} {oc__law_lean kV__law_lean dc__law_lean pm__law_lean cd__law_lean ct__law_lean : Value}
    {f__law_fits' : Addr} {od__law_fits an__law_fits : Option Addr} {sl__law_fits : Array (Option Value)} {oc__law_fits kV__law_fits dc__law_fits pm__law_fits cd__law_fits ct__law_fits : Value}
    {f__law_behind' : Addr} {od__law_behind an__law_behind : Option Addr} {sl__law_behind : Array (Option Value)} {oc__law_behind kV__law_behind dc__law_behind pm__law_behind cd__law_behind ct__law_behind : Value}
    {f__law_rule' : Addr} {od__law_rule an__law_rule : Option Addr} {sl__law_rule : Array (Option Value)} {oc__law_rule kV__law_rule dc__law_rule pm__law_rule cd__law_rule ct__law_rule : Value}
    {f__law_deed_of' : Addr} {od__law_deed_of an__law_deed_of : Option Addr} {sl__law_deed_of : Array (Option Value)} {oc__law_deed_of kV__law_deed_of dc__law_deed_of pm__law_deed_of cd__law_deed_of ct__law_deed_of : Value}
    {f__law_run' : Addr} {od__law_run an__law_run : Option Addr} {sl__law_run : Array (Option Value)} {oc__law_run kV__law_run dc__law_run pm__law_run cd__law_run ct__law_run : Value}
    {f__law_queue' : Addr} {od__law_queue an__law_queue : Option Addr} {sl__law_queue : Array (Option Value)} {oc__law_queue kV__law_queue dc__law_queue pm__law_queue cd__law_queue ct__law_queue : Value}
    {f_law' : Addr} {od_law an_law : Option Addr} {sl_law : Array (Option Value)} {oc_law kV_law dc_law pm_law cd_law ct_law : Value}
    {tk_BOARD : Tok}
    (a_lean : PySem.W.nsIn K mainGlobals "lean" = some (some (.ref f_lean'))) (l_lean : K.lookup f_lean' = some ⟨oc_lean, od_lean, .func (PySem.W.fnOf "lean" "lean" (defArgs (topS 1)) (defBody (topS 1)) (defScope (topS 1)) .none kV_lean dc_lean pm_lean an_lean cd_lean ct_lean), sl_lean⟩) (c_lean : PySem.W.codeIn K cd_lean "lean" = true) (k_lean : PySem.W.keepIn K (.ref f_lean') = true)
    (a_is_upright : PySem.W.nsIn K mainGlobals "is_upright" = some (some (.ref f_is_upright'))) (l_is_upright : K.lookup f_is_upright' = some ⟨oc_is_upright, od_is_upright, .func (PySem.W.fnOf "is_upright" "is_upright" (defArgs (topS 2)) (defBody (topS 2)) (defScope (topS 2)) .none kV_is_upright dc_is_upright pm_is_upright an_is_upright cd_is_upright ct_is_upright), sl_is_upright⟩) (c_is_upright : PySem.W.codeIn K cd_is_upright "is_upright" = true) (k_is_upright : PySem.W.keepIn K (.ref f_is_upright') = true)
    (a_boarded_loads : PySem.W.nsIn K mainGlobals "boarded_loads" = some (some (.ref f_boarded_loads'))) (l_boarded_loads : K.lookup f_boarded_loads' = some ⟨oc_boarded_loads, od_boarded_loads, .func (PySem.W.fnOf "boarded_loads" "boarded_loads" (defArgs (topS 5)) (defBody (topS 5)) (defScope (topS 5)) .none kV_boarded_loads dc_boarded_loads pm_boarded_loads an_boarded_loads cd_boarded_loads ct_boarded_loads), sl_boarded_loads⟩) (c_boarded_loads : PySem.W.codeIn K cd_boarded_loads "boarded_loads" = true) (k_boarded_loads : PySem.W.keepIn K (.ref f_boarded_loads') = true)
    (a_turned_loads : PySem.W.nsIn K mainGlobals "turned_loads" = some (some (.ref f_turned_loads'))) (l_turned_loads : K.lookup f_turned_loads' = some ⟨oc_turned_loads, od_turned_loads, .func (PySem.W.fnOf "turned_loads" "turned_loads" (defArgs (topS 6)) (defBody (topS 6)) (defScope (topS 6)) .none kV_turned_loads dc_turned_loads pm_turned_loads an_turned_loads cd_turned_loads ct_turned_loads), sl_turned_loads⟩) (c_turned_loads : PySem.W.codeIn K cd_turned_loads "turned_loads" = true) (k_turned_loads : PySem.W.keepIn K (.ref f_turned_loads') = true)
    (a_may : PySem.W.nsIn K mainGlobals "may" = some (some (.ref f_may'))) (l_may : K.lookup f_may' = some ⟨oc_may, od_may, .func (PySem.W.fnOf "may" "may" (defArgs (topS 7)) (defBody (topS 7)) (defScope (topS 7)) .none kV_may dc_may pm_may an_may cd_may ct_may), sl_may⟩) (c_may : PySem.W.codeIn K cd_may "may" = true) (k_may : PySem.W.keepIn K (.ref f_may') = true)
    (a_after : PySem.W.nsIn K mainGlobals "after" = some (some (.ref f_after'))) (l_after : K.lookup f_after' = some ⟨oc_after, od_after, .func (PySem.W.fnOf "after" "after" (defArgs (topS 8)) (defBody (topS 8)) (defScope (topS 8)) .none kV_after dc_after pm_after an_after cd_after ct_after), sl_after⟩) (c_after : PySem.W.codeIn K cd_after "after" = true) (k_after : PySem.W.keepIn K (.ref f_after') = true)
    (a_numbers_of : PySem.W.nsIn K mainGlobals "numbers_of" = some (some (.ref f_numbers_of'))) (l_numbers_of : K.lookup f_numbers_of' = some ⟨oc_numbers_of, od_numbers_of, .func (PySem.W.fnOf "numbers_of" "numbers_of" (defArgs (topS 10)) (defBody (topS 10)) (defScope (topS 10)) .none kV_numbers_of dc_numbers_of pm_numbers_of an_numbers_of cd_numbers_of ct_numbers_of), sl_numbers_of⟩) (c_numbers_of : PySem.W.codeIn K cd_numbers_of "numbers_of" = true) (k_numbers_of : PySem.W.keepIn K (.ref f_numbers_of') = true)
    (a_deed : PySem.W.nsIn K mainGlobals "deed" = some (some (.ref f_deed'))) (l_deed : K.lookup f_deed' = some ⟨oc_deed, od_deed, .func (PySem.W.fnOf "deed" "deed" (defArgs (topS 11)) (defBody (topS 11)) (defScope (topS 11)) .none kV_deed dc_deed pm_deed an_deed cd_deed ct_deed), sl_deed⟩) (c_deed : PySem.W.codeIn K cd_deed "deed" = true) (k_deed : PySem.W.keepIn K (.ref f_deed') = true)
    (a_run : PySem.W.nsIn K mainGlobals "run" = some (some (.ref f_run'))) (l_run : K.lookup f_run' = some ⟨oc_run, od_run, .func (PySem.W.fnOf "run" "run" (defArgs (topS 12)) (defBody (topS 12)) (defScope (topS 12)) .none kV_run dc_run pm_run an_run cd_run ct_run), sl_run⟩) (c_run : PySem.W.codeIn K cd_run "run" = true) (k_run : PySem.W.keepIn K (.ref f_run') = true)
    (a__law_deck : PySem.W.nsIn K mainGlobals "_law_deck" = some (some (.ref f__law_deck'))) (l__law_deck : K.lookup f__law_deck' = some ⟨oc__law_deck, od__law_deck, .func (PySem.W.fnOf "_law_deck" "_law_deck" (defArgs (topS 14)) (defBody (topS 14)) (defScope (topS 14)) .none kV__law_deck dc__law_deck pm__law_deck an__law_deck cd__law_deck ct__law_deck), sl__law_deck⟩) (c__law_deck : PySem.W.codeIn K cd__law_deck "_law_deck" = true) (k__law_deck : PySem.W.keepIn K (.ref f__law_deck') = true)
    (a__law_draw : PySem.W.nsIn K mainGlobals "_law_draw" = some (some (.ref f__law_draw'))) (l__law_draw : K.lookup f__law_draw' = some ⟨oc__law_draw, od__law_draw, .func (PySem.W.fnOf "_law_draw" "_law_draw" (defArgs (topS 15)) (defBody (topS 15)) (defScope (topS 15)) .none kV__law_draw dc__law_draw pm__law_draw an__law_draw cd__law_draw ct__law_draw), sl__law_draw⟩) (c__law_draw : PySem.W.codeIn K cd__law_draw "_law_draw" = true) (k__law_draw : PySem.W.keepIn K (.ref f__law_draw') = true)
    (a__law_one : PySem.W.nsIn K mainGlobals "_law_one" = some (some (.ref f__law_one'))) (l__law_one : K.lookup f__law_one' = some ⟨oc__law_one, od__law_one, .func (PySem.W.fnOf "_law_one" "_law_one" (defArgs (topS 16)) (defBody (topS 16)) (defScope (topS 16)) .none kV__law_one dc__law_one pm__law_one an__law_one cd__law_one ct__law_one), sl__law_one⟩) (c__law_one : PySem.W.codeIn K cd__law_one "_law_one" = true) (k__law_one : PySem.W.keepIn K (.ref f__law_one') = true)
    (a__law_count : PySem.W.nsIn K mainGlobals "_law_count" = some (some (.ref f__law_count'))) (l__law_count : K.lookup f__law_count' = some ⟨oc__law_count, od__law_count, .func (PySem.W.fnOf "_law_count" "_law_count" (defArgs (topS 17)) (defBody (topS 17)) (defScope (topS 17)) .none kV__law_count dc__law_count pm__law_count an__law_count cd__law_count ct__law_count), sl__law_count⟩) (c__law_count : PySem.W.codeIn K cd__law_count "_law_count" = true) (k__law_count : PySem.W.keepIn K (.ref f__law_count') = true)
    (a__law_wheel : PySem.W.nsIn K mainGlobals "_law_wheel" = some (some (.ref f__law_wheel'))) (l__law_wheel : K.lookup f__law_wheel' = some ⟨oc__law_wheel, od__law_wheel, .func (PySem.W.fnOf "_law_wheel" "_law_wheel" (defArgs (topS 18)) (defBody (topS 18)) (defScope (topS 18)) .none kV__law_wheel dc__law_wheel pm__law_wheel an__law_wheel cd__law_wheel ct__law_wheel), sl__law_wheel⟩) (c__law_wheel : PySem.W.codeIn K cd__law_wheel "_law_wheel" = true) (k__law_wheel : PySem.W.keepIn K (.ref f__law_wheel') = true)
    (a__law_lean : PySem.W.nsIn K mainGlobals "_law_lean" = some (some (.ref f__law_lean'))) (l__law_lean : K.lookup f__law_lean' = some ⟨oc__law_lean, od__law_lean, .func (PySem.W.fnOf "_law_lean" "_law_lean" (defArgs (topS 19)) (defBody (topS 19)) (defScope (topS 19)) .none kV__law_lean dc__law_lean pm__law_lean an__law_lean cd__law_lean ct__law_lean), sl__law_lean⟩) (c__law_lean : PySem.W.codeIn K cd__law_lean "_law_lean" = true) (k__law_lean : PySem.W.keepIn K (.ref f__law_lean') = true)
    (a__law_fits : PySem.W.nsIn K mainGlobals "_law_fits" = some (some (.ref f__law_fits'))) (l__law_fits : K.lookup f__law_fits' = some ⟨oc__law_fits, od__law_fits, .func (PySem.W.fnOf "_law_fits" "_law_fits" (defArgs (topS 20)) (defBody (topS 20)) (defScope (topS 20)) .none kV__law_fits dc__law_fits pm__law_fits an__law_fits cd__law_fits ct__law_fits), sl__law_fits⟩) (c__law_fits : PySem.W.codeIn K cd__law_fits "_law_fits" = true) (k__law_fits : PySem.W.keepIn K (.ref f__law_fits') = true)
    (a__law_behind : PySem.W.nsIn K mainGlobals "_law_behind" = some (some (.ref f__law_behind'))) (l__law_behind : K.lookup f__law_behind' = some ⟨oc__law_behind, od__law_behind, .func (PySem.W.fnOf "_law_behind" "_law_behind" (defArgs (topS 22)) (defBody (topS 22)) (defScope (topS 22)) .none kV__law_behind dc__law_behind pm__law_behind an__law_behind cd__law_behind ct__law_behind), sl__law_behind⟩) (c__law_behind : PySem.W.codeIn K cd__law_behind "_law_behind" = true) (k__law_behind : PySem.W.keepIn K (.ref f__law_behind') = true)
    (a__law_rule : PySem.W.nsIn K mainGlobals "_law_rule" = some (some (.ref f__law_rule'))) (l__law_rule : K.lookup f__law_rule' = some ⟨oc__law_rule, od__law_rule, .func (PySem.W.fnOf "_law_rule" "_law_rule" (defArgs (topS 23)) (defBody (topS 23)) (defScope (topS 23)) .none kV__law_rule dc__law_rule pm__law_rule an__law_rule cd__law_rule ct__law_rule), sl__law_rule⟩) (c__law_rule : PySem.W.codeIn K cd__law_rule "_law_rule" = true) (k__law_rule : PySem.W.keepIn K (.ref f__law_rule') = true)
    (a__law_deed_of : PySem.W.nsIn K mainGlobals "_law_deed_of" = some (some (.ref f__law_deed_of'))) (l__law_deed_of : K.lookup f__law_deed_of' = some ⟨oc__law_deed_of, od__law_deed_of, .func (PySem.W.fnOf "_law_deed_of" "_law_deed_of" (defArgs (topS 24)) (defBody (topS 24)) (defScope (topS 24)) .none kV__law_deed_of dc__law_deed_of pm__law_deed_of an__law_deed_of cd__law_deed_of ct__law_deed_of), sl__law_deed_of⟩) (c__law_deed_of : PySem.W.codeIn K cd__law_deed_of "_law_deed_of" = true) (k__law_deed_of : PySem.W.keepIn K (.ref f__law_deed_of') = true)
    (a__law_run : PySem.W.nsIn K mainGlobals "_law_run" = some (some (.ref f__law_run'))) (l__law_run : K.lookup f__law_run' = some ⟨oc__law_run, od__law_run, .func (PySem.W.fnOf "_law_run" "_law_run" (defArgs (topS 25)) (defBody (topS 25)) (defScope (topS 25)) .none kV__law_run dc__law_run pm__law_run an__law_run cd__law_run ct__law_run), sl__law_run⟩) (c__law_run : PySem.W.codeIn K cd__law_run "_law_run" = true) (k__law_run : PySem.W.keepIn K (.ref f__law_run') = true)
    (a__law_queue : PySem.W.nsIn K mainGlobals "_law_queue" = some (some (.ref f__law_queue'))) (l__law_queue : K.lookup f__law_queue' = some ⟨oc__law_queue, od__law_queue, .func (PySem.W.fnOf "_law_queue" "_law_queue" (defArgs (topS 26)) (defBody (topS 26)) (defScope (topS 26)) .none kV__law_queue dc__law_queue pm__law_queue an__law_queue cd__law_queue ct__law_queue), sl__law_queue⟩) (c__law_queue : PySem.W.codeIn K cd__law_queue "_law_queue" = true) (k__law_queue : PySem.W.keepIn K (.ref f__law_queue') = true)
    (a_law : PySem.W.nsIn K mainGlobals "law" = some (some (.ref f_law'))) (l_law : K.lookup f_law' = some ⟨oc_law, od_law, .func (PySem.W.fnOf "law" "law" (defArgs (topS 27)) (defBody (topS 27)) (defScope (topS 27)) .none kV_law dc_law pm_law an_law cd_law ct_law), sl_law⟩) (c_law : PySem.W.codeIn K cd_law "law" = true) (k_law : PySem.W.keepIn K (.ref f_law') = true)
    (b_BOARD : PySem.W.nsIn K mainGlobals "BOARD" = some (some (.str "board" tk_BOARD)))
    (z_len : PySem.W.nsIn K mainGlobals "len" = some none)
    (z_sum : PySem.W.nsIn K mainGlobals "sum" = some none)
    (z_tuple : PySem.W.nsIn K mainGlobals "tuple" = some none)
    (z_list : PySem.W.nsIn K mainGlobals "list" = some none)
    (z_int : PySem.W.nsIn K mainGlobals "int" = some none)
    (z_abs : PySem.W.nsIn K mainGlobals "abs" = some none)
    (z_min : PySem.W.nsIn K mainGlobals "min" = some none)
    (z_max : PySem.W.nsIn K mainGlobals "max" = some none)
    (z_all : PySem.W.nsIn K mainGlobals "all" = some none)
    (z_any : PySem.W.nsIn K mainGlobals "any" = some none)
    (z_repr : PySem.W.nsIn K mainGlobals "repr" = some none)
    (z_str : PySem.W.nsIn K mainGlobals "str" = some none)
    (z_range : PySem.W.nsIn K mainGlobals "range" = some none)
    (z_zip : PySem.W.nsIn K mainGlobals "zip" = some none)
    (z_enumerate : PySem.W.nsIn K mainGlobals "enumerate" = some none) :
    ∃ fd : FuncData, (∀ (s : Shared) (u : Value), BindsTo s fd ⟨[u], []⟩ [("_law_script", u)]) ∧ ∀ base : Heap, K.In base → base.Ns mainGlobals mg → FnG l.prog w K mg base (2 * n + 1) fa fd ["_law_script"] (spG ⟨K, ca, dk⟩ 1 (evalFn W defs (n + 1) 21)) := by
  have e := hfa.symm.trans (PySem.W.mg_of X G a_law)
  cases e
  have hd : ∀ d ∈ defs, DefOk K mg tb mu d := by
    have F_lean := fun_mk (st := topS 1) l_lean c_lean k_lean
    have D_lean : DefOk K mg tb mu f_lean := defOk (PySem.W.mg_of X G a_lean) F_lean s_lean (F_lean.binds (ps := ["wheel", "loads"]) fun _ _ _ _ _ _ us hl => match us, hl with | [_, _], _ => rfl) e_lean
    have F_is_upright := fun_mk (st := topS 2) l_is_upright c_is_upright k_is_upright
    have D_is_upright : DefOk K mg tb mu f_is_upright := defOk (PySem.W.mg_of X G a_is_upright) F_is_upright s_is_upright (F_is_upright.binds (ps := ["wheel", "loads"]) fun _ _ _ _ _ _ us hl => match us, hl with | [_, _], _ => rfl) e_is_upright
    have F_boarded_loads := fun_mk (st := topS 5) l_boarded_loads c_boarded_loads k_boarded_loads
    have D_boarded_loads : DefOk K mg tb mu f_boarded_loads := defOk (PySem.W.mg_of X G a_boarded_loads) F_boarded_loads s_boarded_loads (F_boarded_loads.binds (ps := ["loads", "line"]) fun _ _ _ _ _ _ us hl => match us, hl with | [_, _], _ => rfl) e_boarded_loads
    have F_turned_loads := fun_mk (st := topS 6) l_turned_loads c_turned_loads k_turned_loads
    have D_turned_loads : DefOk K mg tb mu f_turned_loads := defOk (PySem.W.mg_of X G a_turned_loads) F_turned_loads s_turned_loads (F_turned_loads.binds (ps := ["loads"]) fun _ _ _ _ _ _ us hl => match us, hl with | [_], _ => rfl) e_turned_loads
    have F_may := fun_mk (st := topS 7) l_may c_may k_may
    have D_may : DefOk K mg tb mu f_may := defOk (PySem.W.mg_of X G a_may) F_may s_may (F_may.binds (ps := ["wheel", "stand", "deed"]) fun _ _ _ _ _ _ us hl => match us, hl with | [_, _, _], _ => rfl) e_may
    have F_after := fun_mk (st := topS 8) l_after c_after k_after
    have D_after : DefOk K mg tb mu f_after := defOk (PySem.W.mg_of X G a_after) F_after s_after (F_after.binds (ps := ["wheel", "stand", "deed", "size"]) fun _ _ _ _ _ _ us hl => match us, hl with | [_, _, _, _], _ => rfl) e_after
    have F_numbers_of := fun_mk (st := topS 10) l_numbers_of c_numbers_of k_numbers_of
    have D_numbers_of : DefOk K mg tb mu f_numbers_of := defOk (PySem.W.mg_of X G a_numbers_of) F_numbers_of s_numbers_of (F_numbers_of.binds (ps := ["wheel", "stand"]) fun _ _ _ _ _ _ us hl => match us, hl with | [_, _], _ => rfl) e_numbers_of
    have F_deed := fun_mk (st := topS 11) l_deed c_deed k_deed
    have D_deed : DefOk K mg tb mu f_deed := defOk (PySem.W.mg_of X G a_deed) F_deed s_deed (F_deed.binds (ps := ["wheel", "rule", "stand"]) fun _ _ _ _ _ _ us hl => match us, hl with | [_, _, _], _ => rfl) e_deed
    have F_run := fun_mk (st := topS 12) l_run c_run k_run
    have D_run : DefOk K mg tb mu f_run := defOk (PySem.W.mg_of X G a_run) F_run s_run (F_run.binds (ps := ["wheel", "rule", "queue"]) fun _ _ _ _ _ _ us hl => match us, hl with | [_, _, _], _ => rfl) e_run
    have F__law_deck := fun_mk (st := topS 14) l__law_deck c__law_deck k__law_deck
    have D__law_deck : DefOk K mg tb mu f__law_deck := defOk (PySem.W.mg_of X G a__law_deck) F__law_deck s__law_deck (F__law_deck.binds (ps := ["_law_script"]) fun _ _ _ _ _ _ us hl => match us, hl with | [_], _ => rfl) e__law_deck
    have F__law_draw := fun_mk (st := topS 15) l__law_draw c__law_draw k__law_draw
    have D__law_draw : DefOk K mg tb mu f__law_draw := defOk (PySem.W.mg_of X G a__law_draw) F__law_draw s__law_draw (F__law_draw.binds (ps := ["_law_deck_here", "_law_many"]) fun _ _ _ _ _ _ us hl => match us, hl with | [_, _], _ => rfl) e__law_draw
    have F__law_one := fun_mk (st := topS 16) l__law_one c__law_one k__law_one
    have D__law_one : DefOk K mg tb mu f__law_one := defOk (PySem.W.mg_of X G a__law_one) F__law_one s__law_one (F__law_one.binds (ps := ["_law_deck_here", "_law_items"]) fun _ _ _ _ _ _ us hl => match us, hl with | [_, _], _ => rfl) e__law_one
    have F__law_count := fun_mk (st := topS 17) l__law_count c__law_count k__law_count
    have D__law_count : DefOk K mg tb mu f__law_count := defOk (PySem.W.mg_of X G a__law_count) F__law_count s__law_count (F__law_count.binds (ps := ["_law_weights", "_law_room", "_law_sizes", "_law_patience", "_law_look"]) fun _ _ _ _ _ _ us hl => match us, hl with | [_, _, _, _, _], _ => rfl) e__law_count
    have F__law_wheel := fun_mk (st := topS 18) l__law_wheel c__law_wheel k__law_wheel
    have D__law_wheel : DefOk K mg tb mu f__law_wheel := defOk (PySem.W.mg_of X G a__law_wheel) F__law_wheel s__law_wheel (F__law_wheel.binds (ps := ["_law_deck_here", "_law_most"]) fun _ _ _ _ _ _ us hl => match us, hl with | [_, _], _ => rfl) e__law_wheel
    have F__law_lean := fun_mk (st := topS 19) l__law_lean c__law_lean k__law_lean
    have D__law_lean : DefOk K mg tb mu f__law_lean := defOk (PySem.W.mg_of X G a__law_lean) F__law_lean s__law_lean (F__law_lean.binds (ps := ["_law_wheel_here", "_law_loads"]) fun _ _ _ _ _ _ us hl => match us, hl with | [_, _], _ => rfl) e__law_lean
    have F__law_fits := fun_mk (st := topS 20) l__law_fits c__law_fits k__law_fits
    have D__law_fits : DefOk K mg tb mu f__law_fits := defOk (PySem.W.mg_of X G a__law_fits) F__law_fits s__law_fits (F__law_fits.binds (ps := ["_law_wheel_here", "_law_loads"]) fun _ _ _ _ _ _ us hl => match us, hl with | [_, _], _ => rfl) e__law_fits
    have F__law_behind := fun_mk (st := topS 22) l__law_behind c__law_behind k__law_behind
    have D__law_behind : DefOk K mg tb mu f__law_behind := defOk (PySem.W.mg_of X G a__law_behind) F__law_behind s__law_behind (F__law_behind.binds (ps := ["_law_wheel_here", "_law_stand", "_law_act"]) fun _ _ _ _ _ _ us hl => match us, hl with | [_, _, _], _ => rfl) e__law_behind
    have F__law_rule := fun_mk (st := topS 23) l__law_rule c__law_rule k__law_rule
    have D__law_rule : DefOk K mg tb mu f__law_rule := defOk (PySem.W.mg_of X G a__law_rule) F__law_rule s__law_rule (F__law_rule.binds (ps := ["_law_deck_here", "_law_wheel_here"]) fun _ _ _ _ _ _ us hl => match us, hl with | [_, _], _ => rfl) e__law_rule
    have F__law_deed_of := fun_mk (st := topS 24) l__law_deed_of c__law_deed_of k__law_deed_of
    have D__law_deed_of : DefOk K mg tb mu f__law_deed_of := defOk (PySem.W.mg_of X G a__law_deed_of) F__law_deed_of s__law_deed_of (F__law_deed_of.binds (ps := ["_law_wheel_here", "_law_rule_here", "_law_stand"]) fun _ _ _ _ _ _ us hl => match us, hl with | [_, _, _], _ => rfl) e__law_deed_of
    have F__law_run := fun_mk (st := topS 25) l__law_run c__law_run k__law_run
    have D__law_run : DefOk K mg tb mu f__law_run := defOk (PySem.W.mg_of X G a__law_run) F__law_run s__law_run (F__law_run.binds (ps := ["_law_wheel_here", "_law_rule_here", "_law_queue_here"]) fun _ _ _ _ _ _ us hl => match us, hl with | [_, _, _], _ => rfl) e__law_run
    have F__law_queue := fun_mk (st := topS 26) l__law_queue c__law_queue k__law_queue
    have D__law_queue : DefOk K mg tb mu f__law_queue := defOk (PySem.W.mg_of X G a__law_queue) F__law_queue s__law_queue (F__law_queue.binds (ps := ["_law_deck_here", "_law_wheel_here", "_law_most"]) fun _ _ _ _ _ _ us hl => match us, hl with | [_, _, _], _ => rfl) e__law_queue
    have F_law := fun_mk (st := topS 27) l_law c_law k_law
    have D_law : DefOk K mg tb mu f_law := defOk (PySem.W.mg_of X G a_law) F_law s_law (F_law.binds (ps := ["_law_script"]) fun _ _ _ _ _ _ us hl => match us, hl with | [_], _ => rfl) e_law
    intro d hd
    simp only [defs, List.mem_cons, List.not_mem_nil, or_false] at hd
    rcases hd with rfl | rfl | rfl | rfl | rfl | rfl | rfl | rfl | rfl | rfl | rfl | rfl | rfl | rfl | rfl | rfl | rfl | rfl | rfl | rfl | rfl | rfl
    · exact D_lean
    · exact D_is_upright
    · exact D_boarded_loads
    · exact D_turned_loads
    · exact D_may
    · exact D_after
    · exact D_numbers_of
    · exact D_deed
    · exact D_run
    · exact D__law_deck
    · exact D__law_draw
    · exact D__law_one
    · exact D__law_count
    · exact D__law_wheel
    · exact D__law_lean
    · exact D__law_fits
    · exact D__law_behind
    · exact D__law_rule
    · exact D__law_deed_of
    · exact D__law_run
    · exact D__law_queue
    · exact D_law
  have hc : ∀ x s, (x, s) ∈ strCst tb → ∃ t k, s = some t ∧ mg x = some (.str t k) := by
    intro x s h
    rw [cs_ok] at h
    simp only [List.mem_cons, List.not_mem_nil, or_false, Prod.mk.injEq] at h
    rcases h with ⟨rfl, rfl⟩
    · exact ⟨_, _, rfl, PySem.W.mg_of X G b_BOARD⟩
  have hb : ∀ x ∈ bnames, mg x = none := by
    intro x hx
    simp only [bnames, List.mem_cons, List.not_mem_nil, or_false] at hx
    rcases hx with rfl | rfl | rfl | rfl | rfl | rfl | rfl | rfl | rfl | rfl | rfl | rfl | rfl | rfl | rfl
    · exact PySem.W.mg_none_of X G z_len
    · exact PySem.W.mg_none_of X G z_sum
    · exact PySem.W.mg_none_of X G z_tuple
    · exact PySem.W.mg_none_of X G z_list
    · exact PySem.W.mg_none_of X G z_int
    · exact PySem.W.mg_none_of X G z_abs
    · exact PySem.W.mg_none_of X G z_min
    · exact PySem.W.mg_none_of X G z_max
    · exact PySem.W.mg_none_of X G z_all
    · exact PySem.W.mg_none_of X G z_any
    · exact PySem.W.mg_none_of X G z_repr
    · exact PySem.W.mg_none_of X G z_str
    · exact PySem.W.mg_none_of X G z_range
    · exact PySem.W.mg_none_of X G z_zip
    · exact PySem.W.mg_none_of X G z_enumerate
  exact ⟨_, fun s v => .of_eq rfl, fun base _ _ => law_of (d := f_law) (all_ok hd (ht_of tb_ok) (hc_of hc) hb n) (fun_mk (st := topS 27) l_law c_law k_law) s_law e_law rfl rfl⟩
end K37
set_option Elab.async false
set_option linter.all false
set_option maxRecDepth 100000
set_option maxHeartbeats 1000000
namespace K37
open PySem PySem.Spec PyProof.Rows L2 Wf
section
variable {W : Nat}
structure Wh where
  ws : List Int
  room : Int
  sizes : List Int
  lo : Int
  hi : Int
  pat : Int
  look : Nat
structure Wh.Ok (w : Wh) : Prop where
  n1 : 2 ≤ w.ws.length
  n2 : w.ws.length ≤ 6
  b : ∀ x ∈ w.ws, -9 ≤ x ∧ x ≤ 9
  r1 : 1 ≤ w.room
  r2 : w.room ≤ 4
  s0 : w.sizes ≠ []
  s1 : w.sizes.length ≤ 4
  s2 : ∀ x ∈ w.sizes, 1 ≤ x ∧ x ≤ 4
  h1 : -60 ≤ w.lo
  h2 : w.hi ≤ 60
  p1 : 1 ≤ w.pat
  p2 : w.pat ≤ 6
  k1 : 1 ≤ w.look
  k2 : w.look ≤ 3
  h3 : w.lo ≤ 0
  h4 : 0 ≤ w.hi
def wD (w : Wh) : D := .tup [tZ w.ws, .int w.room, tZ w.sizes, .tup [.int w.lo, .int w.hi], .int w.pat, .int (w.look : Int)]
@[simp] theorem lf_wD (w : Wh) : lf (wD w) = true := by simp [wD, lf, lfL]
def leanZ (ws ls : List Int) : Int := (List.zipWith (· * ·) ws ls).sum
theorem zipI_ints : ∀ xs ys : List Int, zipI (xs.map .int) (ys.map .int) = (xs.zip ys).map fun p => .tup [.int p.1, .int p.2] := fun xs ys => by
  unfold zipI
  rw [List.zip_map, List.map_map]; rfl
theorem zip_muls : ∀ ws ls : List Int, (ws.zip ls).map (fun p => p.1 * p.2) = List.zipWith (· * ·) ws ls
  | [], _ => rfl
  | _ :: _, [] => rfl
  | w :: ws, l :: ls => by simp only [List.zip_cons_cons, List.map_cons, List.zipWith_cons_cons, zip_muls ws ls]
theorem lean_ok {n i : Nat} {M : Mem} {w : Wh} {ls : List Int} {f : Fd} (hW : 50000 < W) (hw : w.Ok) (hd : defs[i]? = some f) (hp : f.pure = true) (hl : f.ps.length = 2) (hN : f.N.length = 4) (hc : f.code = c_lean) :
    evalFn W defs (n + 1) i [wD w, tZ ls] M = some (.int (leanZ w.ws ls), M) := by
  refine call_pure (M1 := []) hd hp hl.symm (by simp [lfL]) ?_ (fz_lf rfl)
  have hz := hw.n2
  have hzl : (w.ws.zip ls).length ≤ 6 := by simp; omega
  simp only [runB, outR, exs, ex, ev, evs, evo, evi, t_nm, t_tp, t_nil, t_cons, startE, List.map_cons, List.map_nil, List.length_cons, List.length_nil, Nat.reduceAdd, Nat.reduceSub, Nat.sub_self, List.replicate, List.append_nil, List.cons_append, List.nil_append, List.getElem?_cons_zero, List.getElem?_cons_succ, List.set_cons_zero, List.set_cons_succ, Option.bind_some, Option.map_some, Option.bind_none, Option.map_none, asB_bl, if_true, if_false, Bool.false_eq_true, Bool.true_eq_false, o_add, o_sub, c_lt, c_le, c_gt, c_ge, c_is, c_isnt, isNon, c_eqi, c_nei, i_tup, i_lst, i_scr, i_sdc, s_tup, s_lst, b_lenT, b_lenL, b_tupL, b_tupT, b_sum, b_all, b_max, b_int, b_intB, b_abs, sr_tup, sr_lst, at0, at1, at2, at3, at4, at5, partI, wipeE, eq_self, decide_true, decide_false, Bool.and_true, Bool.true_and, Bool.and_false, Bool.false_and, Bool.or_false, Bool.false_or, Bool.or_true, Bool.true_or, if_and, if_or, z_src, z_len, z_tail, z_front, z_at0, z_last, z_one, wkt0, wkl0, wkm0, wkt1, wkl1, wkm1, wkt2, wkl2, wkm2, wkt3, wkl3, wkm3, wkt4, wkl4, wkm4, wkt5, wkl5, wkm5, wkt6, wkl6, wkm6, wkt7, wkl7, wkm7, wkt8, wkl8, wkm8, hc, hN, c_lean, wD, tZ, zipI_ints]
  rw [lcN_map fun p => D.int (p.1 * p.2)]
  · rw [show (fun (p : Int × Int) => D.int (p.1 * p.2)) = (D.int ∘ fun p => p.1 * p.2) from rfl, ← List.map_map, zip_muls]
    simp only [runB, outR, exs, ex, ev, evs, evo, evi, t_nm, t_tp, t_nil, t_cons, startE, List.map_cons, List.map_nil, List.length_cons, List.length_nil, Nat.reduceAdd, Nat.reduceSub, Nat.sub_self, List.replicate, List.append_nil, List.cons_append, List.nil_append, List.getElem?_cons_zero, List.getElem?_cons_succ, List.set_cons_zero, List.set_cons_succ, Option.bind_some, Option.map_some, Option.bind_none, Option.map_none, asB_bl, if_true, if_false, Bool.false_eq_true, Bool.true_eq_false, o_add, o_sub, c_lt, c_le, c_gt, c_ge, c_is, c_isnt, isNon, c_eqi, c_nei, i_tup, i_lst, i_scr, i_sdc, s_tup, s_lst, b_lenT, b_lenL, b_tupL, b_tupT, b_sum, b_all, b_max, b_int, b_intB, b_abs, sr_tup, sr_lst, at0, at1, at2, at3, at4, at5, partI, wipeE, eq_self, decide_true, decide_false, Bool.and_true, Bool.true_and, Bool.and_false, Bool.false_and, Bool.or_false, Bool.false_or, Bool.or_true, Bool.true_or, if_and, if_or, z_src, z_len, z_tail, z_front, z_at0, z_last, z_one, wkt0, wkl0, wkm0, wkt1, wkl1, wkm1, wkt2, wkl2, wkm2, wkt3, wkl3, wkm3, wkt4, wkl4, wkm4, wkt5, wkl5, wkm5, wkt6, wkl6, wkm6, wkt7, wkl7, wkm7, wkt8, wkl8, wkm8]
    rw [k_l (by simp only [List.length_map, List.length_zipWith]; exact line_ge (by omega))]
    simp only [runB, outR, exs, ex, ev, evs, evo, evi, t_nm, t_tp, t_nil, t_cons, startE, List.map_cons, List.map_nil, List.length_cons, List.length_nil, Nat.reduceAdd, Nat.reduceSub, Nat.sub_self, List.replicate, List.append_nil, List.cons_append, List.nil_append, List.getElem?_cons_zero, List.getElem?_cons_succ, List.set_cons_zero, List.set_cons_succ, Option.bind_some, Option.map_some, Option.bind_none, Option.map_none, asB_bl, if_true, if_false, Bool.false_eq_true, Bool.true_eq_false, o_add, o_sub, c_lt, c_le, c_gt, c_ge, c_is, c_isnt, isNon, c_eqi, c_nei, i_tup, i_lst, i_scr, i_sdc, s_tup, s_lst, b_lenT, b_lenL, b_tupL, b_tupT, b_sum, b_all, b_max, b_int, b_intB, b_abs, sr_tup, sr_lst, at0, at1, at2, at3, at4, at5, partI, wipeE, eq_self, decide_true, decide_false, Bool.and_true, Bool.true_and, Bool.and_false, Bool.false_and, Bool.or_false, Bool.false_or, Bool.or_true, Bool.true_or, if_and, if_or, z_src, z_len, z_tail, z_front, z_at0, z_last, z_one, wkt0, wkl0, wkm0, wkt1, wkl1, wkm1, wkt2, wkl2, wkm2, wkt3, wkl3, wkm3, wkt4, wkl4, wkm4, wkt5, wkl5, wkm5, wkt6, wkl6, wkm6, wkt7, wkl7, wkm7, wkt8, wkl8, wkm8, leanZ]
  · intro p hp
    have hb := hw.b p.1 (List.of_mem_zip hp).1
    refine ⟨_, rfl, ?_⟩
    simp only [runB, outR, exs, ex, ev, evs, evo, evi, t_nm, t_tp, t_nil, t_cons, startE, List.map_cons, List.map_nil, List.length_cons, List.length_nil, Nat.reduceAdd, Nat.reduceSub, Nat.sub_self, List.replicate, List.append_nil, List.cons_append, List.nil_append, List.getElem?_cons_zero, List.getElem?_cons_succ, List.set_cons_zero, List.set_cons_succ, Option.bind_some, Option.map_some, Option.bind_none, Option.map_none, asB_bl, if_true, if_false, Bool.false_eq_true, Bool.true_eq_false, o_add, o_sub, c_lt, c_le, c_gt, c_ge, c_is, c_isnt, isNon, c_eqi, c_nei, i_tup, i_lst, i_scr, i_sdc, s_tup, s_lst, b_lenT, b_lenL, b_tupL, b_tupT, b_sum, b_all, b_max, b_int, b_intB, b_abs, sr_tup, sr_lst, at0, at1, at2, at3, at4, at5, partI, wipeE, eq_self, decide_true, decide_false, Bool.and_true, Bool.true_and, Bool.and_false, Bool.false_and, Bool.or_false, Bool.false_or, Bool.or_true, Bool.true_or, if_and, if_or, z_src, z_len, z_tail, z_front, z_at0, z_last, z_one, wkt0, wkl0, wkm0, wkt1, wkl1, wkm1, wkt2, wkl2, wkm2, wkt3, wkl3, wkm3, wkt4, wkl4, wkm4, wkt5, wkl5, wkm5, wkt6, wkl6, wkm6, wkt7, wkl7, wkm7, wkt8, wkl8, wkm8]
    rw [o_mul (by omega)]
  · exact line_ge (by omega)
  · omega
theorem w0 {w : Wh} {M : Mem} : opIdx (wD w) (.int 0) M = some (tZ w.ws) := at0
theorem w1 {w : Wh} {M : Mem} : opIdx (wD w) (.int 1) M = some (.int w.room) := at1
theorem w2 {w : Wh} {M : Mem} : opIdx (wD w) (.int 2) M = some (tZ w.sizes) := at2
theorem w3 {w : Wh} {M : Mem} : opIdx (wD w) (.int 3) M = some (.tup [.int w.lo, .int w.hi]) := at3
theorem w4 {w : Wh} {M : Mem} : opIdx (wD w) (.int 4) M = some (.int w.pat) := at4
theorem w5 {w : Wh} {M : Mem} : opIdx (wD w) (.int 5) M = some (.int (w.look : Int)) := at5
def uprightZ (w : Wh) (ls : List Int) : Bool := decide (w.lo ≤ leanZ w.ws ls) && decide (leanZ w.ws ls ≤ w.hi)
theorem lean0 {n : Nat} {M : Mem} {w : Wh} {ls : List Int} (hW : 50000 < W) (hw : w.Ok) : evalFn W defs (n + 1) 0 [wD w, tZ ls] M = some (.int (leanZ w.ws ls), M) := lean_ok hW hw rfl rfl rfl rfl rfl
theorem upright_ok {n : Nat} {M : Mem} {w : Wh} {ls : List Int} (hW : 50000 < W) (hw : w.Ok) : evalFn W defs (n + 2) 1 [wD w, tZ ls] M = some (.bl (uprightZ w ls), M) := by
  refine call_pure (M1 := []) (f := f_is_upright) rfl rfl rfl (by simp [lfL]) ?_ (fz_lf rfl)
  simp only [runB, outR, exs, ex, ev, evs, evo, evi, t_nm, t_tp, t_nil, t_cons, startE, List.map_cons, List.map_nil, List.length_cons, List.length_nil, Nat.reduceAdd, Nat.reduceSub, Nat.sub_self, List.replicate, List.append_nil, List.cons_append, List.nil_append, List.getElem?_cons_zero, List.getElem?_cons_succ, List.set_cons_zero, List.set_cons_succ, Option.bind_some, Option.map_some, Option.bind_none, Option.map_none, asB_bl, if_true, if_false, Bool.false_eq_true, Bool.true_eq_false, o_add, o_sub, c_lt, c_le, c_gt, c_ge, c_is, c_isnt, isNon, c_eqi, c_nei, i_tup, i_lst, i_scr, i_sdc, s_tup, s_lst, b_lenT, b_lenL, b_tupL, b_tupT, b_sum, b_all, b_max, b_int, b_intB, b_abs, sr_tup, sr_lst, at0, at1, at2, at3, at4, at5, partI, wipeE, eq_self, decide_true, decide_false, Bool.and_true, Bool.true_and, Bool.and_false, Bool.false_and, Bool.or_false, Bool.false_or, Bool.or_true, Bool.true_or, if_and, if_or, z_src, z_len, z_tail, z_front, z_at0, z_last, z_one, wkt0, wkl0, wkm0, wkt1, wkl1, wkm1, wkt2, wkl2, wkm2, wkt3, wkl3, wkm3, wkt4, wkl4, wkm4, wkt5, wkl5, wkm5, wkt6, wkl6, wkm6, wkt7, wkl7, wkm7, wkt8, wkl8, wkm8, f_is_upright, c_is_upright, w3, lean0 hW hw]
  rfl
def boardedL (ls ln : List Int) : List Int := (ls.headD 0 + ln.headD 0) :: ls.tail
def turnedL (ls : List Int) : List Int := 0 :: ls.dropLast
theorem boarded_ok {n : Nat} {M : Mem} {ls ln : List Int} (h1 : ls ≠ []) (h2 : ln ≠ []) (h3 : ls.length ≤ 10) : evalFn W defs (n + 1) 2 [tZ ls, tZ ln] M = some (tZ (boardedL ls ln), M) := by
  cases ls with
  | nil => exact absurd rfl h1
  | cons a as =>
    cases ln with
    | nil => exact absurd rfl h2
    | cons b bs =>
      refine call_pure (M1 := []) (f := f_boarded_loads) rfl rfl rfl (by simp [lfL]) ?_ (fz_lf (lf_tZ _))
      simp only [runB, outR, exs, ex, ev, evs, evo, evi, t_nm, t_tp, t_nil, t_cons, startE, List.map_cons, List.map_nil, List.length_cons, List.length_nil, Nat.reduceAdd, Nat.reduceSub, Nat.sub_self, List.replicate, List.append_nil, List.cons_append, List.nil_append, List.getElem?_cons_zero, List.getElem?_cons_succ, List.set_cons_zero, List.set_cons_succ, Option.bind_some, Option.map_some, Option.bind_none, Option.map_none, asB_bl, if_true, if_false, Bool.false_eq_true, Bool.true_eq_false, o_add, o_sub, c_lt, c_le, c_gt, c_ge, c_is, c_isnt, isNon, c_eqi, c_nei, i_tup, i_lst, i_scr, i_sdc, s_tup, s_lst, b_lenT, b_lenL, b_tupL, b_tupT, b_sum, b_all, b_max, b_int, b_intB, b_abs, sr_tup, sr_lst, at0, at1, at2, at3, at4, at5, partI, wipeE, eq_self, decide_true, decide_false, Bool.and_true, Bool.true_and, Bool.and_false, Bool.false_and, Bool.or_false, Bool.false_or, Bool.or_true, Bool.true_or, if_and, if_or, z_src, z_len, z_tail, z_front, z_at0, z_last, z_one, wkt0, wkl0, wkm0, wkt1, wkl1, wkm1, wkt2, wkl2, wkm2, wkt3, wkl3, wkm3, wkt4, wkl4, wkm4, wkt5, wkl5, wkm5, wkt6, wkl6, wkm6, wkt7, wkl7, wkm7, wkt8, wkl8, wkm8, f_boarded_loads, c_boarded_loads]
      rw [z_add (by simp at h3 ⊢; exact line_ge (by omega))]
      rfl
theorem turned_ok {n : Nat} {M : Mem} {ls : List Int} (h3 : ls.length ≤ 10) : evalFn W defs (n + 1) 3 [tZ ls] M = some (tZ (turnedL ls), M) := by
  refine call_pure (M1 := []) (f := f_turned_loads) rfl rfl rfl (by simp [lfL]) ?_ (fz_lf (lf_tZ _))
  simp only [runB, outR, exs, ex, ev, evs, evo, evi, t_nm, t_tp, t_nil, t_cons, startE, List.map_cons, List.map_nil, List.length_cons, List.length_nil, Nat.reduceAdd, Nat.reduceSub, Nat.sub_self, List.replicate, List.append_nil, List.cons_append, List.nil_append, List.getElem?_cons_zero, List.getElem?_cons_succ, List.set_cons_zero, List.set_cons_succ, Option.bind_some, Option.map_some, Option.bind_none, Option.map_none, asB_bl, if_true, if_false, Bool.false_eq_true, Bool.true_eq_false, o_add, o_sub, c_lt, c_le, c_gt, c_ge, c_is, c_isnt, isNon, c_eqi, c_nei, i_tup, i_lst, i_scr, i_sdc, s_tup, s_lst, b_lenT, b_lenL, b_tupL, b_tupT, b_sum, b_all, b_max, b_int, b_intB, b_abs, sr_tup, sr_lst, at0, at1, at2, at3, at4, at5, partI, wipeE, eq_self, decide_true, decide_false, Bool.and_true, Bool.true_and, Bool.and_false, Bool.false_and, Bool.or_false, Bool.false_or, Bool.or_true, Bool.true_or, if_and, if_or, z_src, z_len, z_tail, z_front, z_at0, z_last, z_one, wkt0, wkl0, wkm0, wkt1, wkl1, wkm1, wkt2, wkl2, wkm2, wkt3, wkl3, wkm3, wkt4, wkl4, wkm4, wkt5, wkl5, wkm5, wkt6, wkl6, wkm6, wkt7, wkl7, wkm7, wkt8, wkl8, wkm8, f_turned_loads, c_turned_loads]
  rw [z_add (by simp; exact line_ge (by omega))]
  rfl
structure Sd where
  loads : List Int
  line : List Int
  k : Int
structure SdOk (w : Wh) (s : Sd) : Prop where
  n1 : s.loads.length = w.ws.length
  n2 : s.line.length = w.look
  b1 : ∀ x ∈ s.loads, 0 ≤ x ∧ x ≤ w.room
  b2 : ∀ x ∈ s.line, 1 ≤ x ∧ x ≤ 4
  k1 : 0 ≤ s.k
  k2 : s.k ≤ w.pat
theorem SdOk.ne1 {w : Wh} {s : Sd} (hw : w.Ok) (h : SdOk w s) : s.loads ≠ [] := fun z => by
  have h1 := h.n1; have h2 := hw.n1
  rw [z] at h1
  simp at h1; omega
theorem SdOk.ne2 {w : Wh} {s : Sd} (hw : w.Ok) (h : SdOk w s) : s.line ≠ [] := fun z => by
  have h1 := h.n2; have h2 := hw.k1
  rw [z] at h1
  simp at h1; omega
theorem SdOk.l10 {w : Wh} {s : Sd} (hw : w.Ok) (h : SdOk w s) : s.loads.length ≤ 10 := by
  have h1 := h.n1; have h2 := hw.n2
  omega
def sD (s : Sd) : D := .tup [tZ s.loads, tZ s.line, .int s.k]
@[simp] theorem lf_sD (s : Sd) : lf (sD s) = true := by simp [sD, lf, lfL]
abbrev BOARD : Str := Str.ofString "board"
abbrev TURN : Str := Str.ofString "turn"
theorem okB : sOk BOARD = true := by decide +kernel
theorem okT : sOk TURN = true := by decide +kernel
theorem bB : decide (BOARD = BOARD) = true := by decide +kernel
theorem tB : decide (TURN = BOARD) = false := by decide +kernel
theorem tT : decide (TURN = TURN) = true := by decide +kernel
theorem bT : decide (BOARD = TURN) = false := by decide +kernel
def mayZ (w : Wh) (s : Sd) (act : Str) : Bool := if act = BOARD then decide (s.loads.headD 0 + s.line.headD 0 ≤ w.room) && uprightZ w (boardedL s.loads s.line) else decide (s.k < w.pat) && uprightZ w (turnedL s.loads)
theorem may_ok {n : Nat} {M : Mem} {w : Wh} {s : Sd} {act : Str} (hW : 50000 < W) (hw : w.Ok) (hs : SdOk w s) (ha : act = BOARD ∨ act = TURN) : evalFn W defs (n + 3) 4 [wD w, sD s, .str act] M = some (.bl (mayZ w s act), M) := by
  refine call_pure (M1 := []) (f := f_may) rfl rfl rfl (by simp [lfL, lf]) ?_ (fz_lf rfl)
  have e1 := hs.ne1 hw
  have e2 := hs.ne2 hw
  have e3 := hs.l10 hw
  rcases ha with rfl | rfl
  · simp only [runB, outR, exs, ex, ev, evs, evo, evi, t_nm, t_tp, t_nil, t_cons, startE, List.map_cons, List.map_nil, List.length_cons, List.length_nil, Nat.reduceAdd, Nat.reduceSub, Nat.sub_self, List.replicate, List.append_nil, List.cons_append, List.nil_append, List.getElem?_cons_zero, List.getElem?_cons_succ, List.set_cons_zero, List.set_cons_succ, Option.bind_some, Option.map_some, Option.bind_none, Option.map_none, asB_bl, if_true, if_false, Bool.false_eq_true, Bool.true_eq_false, o_add, o_sub, c_lt, c_le, c_gt, c_ge, c_is, c_isnt, isNon, c_eqi, c_nei, i_tup, i_lst, i_scr, i_sdc, s_tup, s_lst, b_lenT, b_lenL, b_tupL, b_tupT, b_sum, b_all, b_max, b_int, b_intB, b_abs, sr_tup, sr_lst, at0, at1, at2, at3, at4, at5, partI, wipeE, eq_self, decide_true, decide_false, Bool.and_true, Bool.true_and, Bool.and_false, Bool.false_and, Bool.or_false, Bool.false_or, Bool.or_true, Bool.true_or, if_and, if_or, z_src, z_len, z_tail, z_front, z_at0, z_last, z_one, wkt0, wkl0, wkm0, wkt1, wkl1, wkm1, wkt2, wkl2, wkm2, wkt3, wkl3, wkm3, wkt4, wkl4, wkm4, wkt5, wkl5, wkm5, wkt6, wkl6, wkm6, wkt7, wkl7, wkm7, wkt8, wkl8, wkm8, f_may, c_may, sD, c_eqs okB okB, bB, boarded_ok e1 e2 e3, upright_ok hW hw, w1]
    obtain ⟨ls, ln, k⟩ := s
    cases ls with
    | nil => exact absurd rfl e1
    | cons a as =>
      cases ln with
      | nil => exact absurd rfl e2
      | cons b bs =>
        simp only [runB, outR, exs, ex, ev, evs, evo, evi, t_nm, t_tp, t_nil, t_cons, startE, List.map_cons, List.map_nil, List.length_cons, List.length_nil, Nat.reduceAdd, Nat.reduceSub, Nat.sub_self, List.replicate, List.append_nil, List.cons_append, List.nil_append, List.getElem?_cons_zero, List.getElem?_cons_succ, List.set_cons_zero, List.set_cons_succ, Option.bind_some, Option.map_some, Option.bind_none, Option.map_none, asB_bl, if_true, if_false, Bool.false_eq_true, Bool.true_eq_false, o_add, o_sub, c_lt, c_le, c_gt, c_ge, c_is, c_isnt, isNon, c_eqi, c_nei, i_tup, i_lst, i_scr, i_sdc, s_tup, s_lst, b_lenT, b_lenL, b_tupL, b_tupT, b_sum, b_all, b_max, b_int, b_intB, b_abs, sr_tup, sr_lst, at0, at1, at2, at3, at4, at5, partI, wipeE, eq_self, decide_true, decide_false, Bool.and_true, Bool.true_and, Bool.and_false, Bool.false_and, Bool.or_false, Bool.false_or, Bool.or_true, Bool.true_or, if_and, if_or, z_src, z_len, z_tail, z_front, z_at0, z_last, z_one, wkt0, wkl0, wkm0, wkt1, wkl1, wkm1, wkt2, wkl2, wkm2, wkt3, wkl3, wkm3, wkt4, wkl4, wkm4, wkt5, wkl5, wkm5, wkt6, wkl6, wkm6, wkt7, wkl7, wkm7, wkt8, wkl8, wkm8, mayZ, if_pos]
        rfl
  · simp only [runB, outR, exs, ex, ev, evs, evo, evi, t_nm, t_tp, t_nil, t_cons, startE, List.map_cons, List.map_nil, List.length_cons, List.length_nil, Nat.reduceAdd, Nat.reduceSub, Nat.sub_self, List.replicate, List.append_nil, List.cons_append, List.nil_append, List.getElem?_cons_zero, List.getElem?_cons_succ, List.set_cons_zero, List.set_cons_succ, Option.bind_some, Option.map_some, Option.bind_none, Option.map_none, asB_bl, if_true, if_false, Bool.false_eq_true, Bool.true_eq_false, o_add, o_sub, c_lt, c_le, c_gt, c_ge, c_is, c_isnt, isNon, c_eqi, c_nei, i_tup, i_lst, i_scr, i_sdc, s_tup, s_lst, b_lenT, b_lenL, b_tupL, b_tupT, b_sum, b_all, b_max, b_int, b_intB, b_abs, sr_tup, sr_lst, at0, at1, at2, at3, at4, at5, partI, wipeE, eq_self, decide_true, decide_false, Bool.and_true, Bool.true_and, Bool.and_false, Bool.false_and, Bool.or_false, Bool.false_or, Bool.or_true, Bool.true_or, if_and, if_or, z_src, z_len, z_tail, z_front, z_at0, z_last, z_one, wkt0, wkl0, wkm0, wkt1, wkl1, wkm1, wkt2, wkl2, wkm2, wkt3, wkl3, wkm3, wkt4, wkl4, wkm4, wkt5, wkl5, wkm5, wkt6, wkl6, wkm6, wkt7, wkl7, wkm7, wkt8, wkl8, wkm8, f_may, c_may, sD, c_eqs okT okB, tB, turned_ok e3, upright_ok hW hw, w4]
    simp only [mayZ, if_neg (of_decide_eq_false tB)]
end
end K37
set_option Elab.async false
set_option linter.all false
set_option maxRecDepth 100000
set_option maxHeartbeats 1000000
namespace K37
open PySem PySem.Spec PyProof.Rows L2 Wf
section
variable {W : Nat}
def afterZ (s : Sd) (act : Str) (z : Int) : Sd := if act = BOARD then ⟨boardedL s.loads s.line, s.line.tail ++ [z], 0⟩ else ⟨turnedL s.loads, s.line, s.k + 1⟩
theorem sD_eq (s : Sd) : D.tup [tZ s.loads, tZ s.line, .int s.k] = sD s := rfl
theorem afterZ_B {s : Sd} {z : Int} : afterZ s BOARD z = ⟨boardedL s.loads s.line, s.line.tail ++ [z], 0⟩ := if_pos rfl
theorem afterZ_T {s : Sd} {z : Int} : afterZ s TURN z = ⟨turnedL s.loads, s.line, s.k + 1⟩ := if_neg (of_decide_eq_false tB)
theorem mayZ_B {w : Wh} {s : Sd} : mayZ w s BOARD = (decide (s.loads.headD 0 + s.line.headD 0 ≤ w.room) && uprightZ w (boardedL s.loads s.line)) := if_pos rfl
theorem mayZ_T {w : Wh} {s : Sd} : mayZ w s TURN = (decide (s.k < w.pat) && uprightZ w (turnedL s.loads)) := if_neg (of_decide_eq_false tB)
theorem after_ok {n : Nat} {M : Mem} {w : Wh} {s : Sd} {act : Str} {z : Int} (hw : w.Ok) (hs : SdOk w s) (ha : act = BOARD ∨ act = TURN) : evalFn W defs (n + 2) 5 [wD w, sD s, .str act, .int z] M = some (sD (afterZ s act z), M) := by
  refine call_pure (M1 := []) (f := f_after) rfl rfl rfl (by simp [lfL, lf]) ?_ (fz_lf (lf_sD _))
  have e1 := hs.ne1 hw
  have e2 := hs.ne2 hw
  have e3 := hs.l10 hw
  have e4 := hs.n2
  have e5 := hw.k2
  rcases ha with rfl | rfl
  · obtain ⟨ls, ln, k⟩ := s
    cases ln with
    | nil => exact absurd rfl e2
    | cons b bs =>
      simp at e4
      simp only [runB, outR, exs, ex, ev, evs, evo, evi, t_nm, t_tp, t_nil, t_cons, startE, List.map_cons, List.map_nil, List.length_cons, List.length_nil, Nat.reduceAdd, Nat.reduceSub, Nat.sub_self, List.replicate, List.append_nil, List.cons_append, List.nil_append, List.getElem?_cons_zero, List.getElem?_cons_succ, List.set_cons_zero, List.set_cons_succ, Option.bind_some, Option.map_some, Option.bind_none, Option.map_none, asB_bl, if_true, if_false, Bool.false_eq_true, Bool.true_eq_false, o_add, o_sub, c_lt, c_le, c_gt, c_ge, c_is, c_isnt, isNon, c_eqi, c_nei, i_tup, i_lst, i_scr, i_sdc, s_tup, s_lst, b_lenT, b_lenL, b_tupL, b_tupT, b_sum, b_all, b_max, b_int, b_intB, b_abs, sr_tup, sr_lst, at0, at1, at2, at3, at4, at5, partI, wipeE, eq_self, decide_true, decide_false, Bool.and_true, Bool.true_and, Bool.and_false, Bool.false_and, Bool.or_false, Bool.false_or, Bool.or_true, Bool.true_or, if_and, if_or, z_src, z_len, z_tail, z_front, z_at0, z_last, z_one, wkt0, wkl0, wkm0, wkt1, wkl1, wkm1, wkt2, wkl2, wkm2, wkt3, wkl3, wkm3, wkt4, wkl4, wkm4, wkt5, wkl5, wkm5, wkt6, wkl6, wkm6, wkt7, wkl7, wkm7, wkt8, wkl8, wkm8, f_after, c_after, sD, c_eqs okB okB, bB, boarded_ok e1 e2 e3, z_add (show bs.length + [z].length ≤ sizeLine by simp; exact line_ge (by omega))]
      simp only [afterZ, if_pos (of_decide_eq_true bB)]
      rfl
  · simp only [runB, outR, exs, ex, ev, evs, evo, evi, t_nm, t_tp, t_nil, t_cons, startE, List.map_cons, List.map_nil, List.length_cons, List.length_nil, Nat.reduceAdd, Nat.reduceSub, Nat.sub_self, List.replicate, List.append_nil, List.cons_append, List.nil_append, List.getElem?_cons_zero, List.getElem?_cons_succ, List.set_cons_zero, List.set_cons_succ, Option.bind_some, Option.map_some, Option.bind_none, Option.map_none, asB_bl, if_true, if_false, Bool.false_eq_true, Bool.true_eq_false, o_add, o_sub, c_lt, c_le, c_gt, c_ge, c_is, c_isnt, isNon, c_eqi, c_nei, i_tup, i_lst, i_scr, i_sdc, s_tup, s_lst, b_lenT, b_lenL, b_tupL, b_tupT, b_sum, b_all, b_max, b_int, b_intB, b_abs, sr_tup, sr_lst, at0, at1, at2, at3, at4, at5, partI, wipeE, eq_self, decide_true, decide_false, Bool.and_true, Bool.true_and, Bool.and_false, Bool.false_and, Bool.or_false, Bool.false_or, Bool.or_true, Bool.true_or, if_and, if_or, z_src, z_len, z_tail, z_front, z_at0, z_last, z_one, wkt0, wkl0, wkm0, wkt1, wkl1, wkm1, wkt2, wkl2, wkm2, wkt3, wkl3, wkm3, wkt4, wkl4, wkm4, wkt5, wkl5, wkm5, wkt6, wkl6, wkm6, wkt7, wkl7, wkm7, wkt8, wkl8, wkm8, f_after, c_after, sD, c_eqs okT okB, tB, turned_ok e3]
    simp only [afterZ, if_neg (of_decide_eq_false tB)]
def numZ (w : Wh) (s : Sd) : List Int := [s.loads.headD 0, s.line.headD 0, s.k, leanZ w.ws s.loads, leanZ w.ws (turnedL s.loads)]
abbrev whats : List Str := ["load", "head", "waited", "lean", "ahead"]
theorem numbers_ok {n : Nat} {M : Mem} {w : Wh} {s : Sd} (hW : 50000 < W) (hw : w.Ok) (hs : SdOk w s) : evalFn W defs (n + 2) 6 [wD w, sD s] M = some (.sdc whats ((numZ w s).map .int), M) := by
  have e1 := hs.ne1 hw
  have e2 := hs.ne2 hw
  have e3 := hs.l10 hw
  obtain ⟨ls, ln, k⟩ := s
  cases ls with
  | nil => exact absurd rfl e1
  | cons a as =>
    cases ln with
    | nil => exact absurd rfl e2
    | cons b bs =>
      refine call_pure (d := .loc 0) (M1 := [.sdc whats ((numZ w ⟨a :: as, b :: bs, k⟩).map .int)]) (f := f_numbers_of) rfl rfl rfl (by simp [lfL, lf]) ?_ (fz_loc_sdc (by rfl) (lfL_ints _))
      simp only [runB, outR, exs, ex, ev, evs, evo, evi, t_nm, t_tp, t_nil, t_cons, startE, List.map_cons, List.map_nil, List.length_cons, List.length_nil, Nat.reduceAdd, Nat.reduceSub, Nat.sub_self, List.replicate, List.append_nil, List.cons_append, List.nil_append, List.getElem?_cons_zero, List.getElem?_cons_succ, List.set_cons_zero, List.set_cons_succ, Option.bind_some, Option.map_some, Option.bind_none, Option.map_none, asB_bl, if_true, if_false, Bool.false_eq_true, Bool.true_eq_false, o_add, o_sub, c_lt, c_le, c_gt, c_ge, c_is, c_isnt, isNon, c_eqi, c_nei, i_tup, i_lst, i_scr, i_sdc, s_tup, s_lst, b_lenT, b_lenL, b_tupL, b_tupT, b_sum, b_all, b_max, b_int, b_intB, b_abs, sr_tup, sr_lst, at0, at1, at2, at3, at4, at5, partI, wipeE, eq_self, decide_true, decide_false, Bool.and_true, Bool.true_and, Bool.and_false, Bool.false_and, Bool.or_false, Bool.false_or, Bool.or_true, Bool.true_or, if_and, if_or, z_src, z_len, z_tail, z_front, z_at0, z_last, z_one, wkt0, wkl0, wkm0, wkt1, wkl1, wkm1, wkt2, wkl2, wkm2, wkt3, wkl3, wkm3, wkt4, wkl4, wkm4, wkt5, wkl5, wkm5, wkt6, wkl6, wkm6, wkt7, wkl7, wkm7, wkt8, wkl8, wkm8, f_numbers_of, c_numbers_of, sD, turned_ok e3, lean0 hW hw]
      rw [sb_str rfl (by decide +kernel) (by simp)]
      simp only [runB, outR, exs, ex, ev, evs, evo, evi, t_nm, t_tp, t_nil, t_cons, startE, List.map_cons, List.map_nil, List.length_cons, List.length_nil, Nat.reduceAdd, Nat.reduceSub, Nat.sub_self, List.replicate, List.append_nil, List.cons_append, List.nil_append, List.getElem?_cons_zero, List.getElem?_cons_succ, List.set_cons_zero, List.set_cons_succ, Option.bind_some, Option.map_some, Option.bind_none, Option.map_none, asB_bl, if_true, if_false, Bool.false_eq_true, Bool.true_eq_false, o_add, o_sub, c_lt, c_le, c_gt, c_ge, c_is, c_isnt, isNon, c_eqi, c_nei, i_tup, i_lst, i_scr, i_sdc, s_tup, s_lst, b_lenT, b_lenL, b_tupL, b_tupT, b_sum, b_all, b_max, b_int, b_intB, b_abs, sr_tup, sr_lst, at0, at1, at2, at3, at4, at5, partI, wipeE, eq_self, decide_true, decide_false, Bool.and_true, Bool.true_and, Bool.and_false, Bool.false_and, Bool.or_false, Bool.false_or, Bool.or_true, Bool.true_or, if_and, if_or, z_src, z_len, z_tail, z_front, z_at0, z_last, z_one, wkt0, wkl0, wkm0, wkt1, wkl1, wkm1, wkt2, wkl2, wkm2, wkt3, wkl3, wkm3, wkt4, wkl4, wkm4, wkt5, wkl5, wkm5, wkt6, wkl6, wkm6, wkt7, wkl7, wkm7, wkt8, wkl8, wkm8, numZ]
      rfl
abbrev Tst := Str × Int × Int
abbrev Ln := List Tst × Str
def tD (t : Tst) : D := .tup [.str t.1, .int t.2.1, .int t.2.2]
def lD (l : Ln) : D := .tup [.tup (l.1.map tD), .str l.2]
def rD (r : List Ln) : D := .tup (r.map lD)
theorem r_src {r : List Ln} {M : Mem} : srcOf M (rD r) = some (.fix (r.map lD)) := rfl
theorem lf_tD (t : Tst) : lf (tD t) = true := rfl
theorem lf_lD (l : Ln) : lf (lD l) = true := by simp only [lD, lf, lfL, lfL_map fun t _ => lf_tD t, Bool.and_self]
@[simp] theorem lf_rD (r : List Ln) : lf (rD r) = true := by simp only [rD, lf, lfL_map fun t _ => lf_lD t]
structure TOk (t : Tst) : Prop where
  w : t.1 ∈ whats
  b1 : -(10 ^ 32) ≤ t.2.1 ∧ t.2.1 ≤ 10 ^ 32
  b2 : -(10 ^ 32) ≤ t.2.2 ∧ t.2.2 ≤ 10 ^ 32
structure LOk (l : Ln) : Prop where
  a : l.2 = BOARD ∨ l.2 = TURN
  n : l.1.length ≤ 10
  t : ∀ t ∈ l.1, TOk t
structure ROk (r : List Ln) : Prop where
  n : r.length ≤ 10
  l : ∀ l ∈ r, LOk l
def numOf (w : Wh) (s : Sd) (x : Str) : Int := ((whats.zip (numZ w s)).lookup x).getD 0
theorem look_ok {w : Wh} {s : Sd} {x : Str} (h : x ∈ whats) : (whats.zip ((numZ w s).map .int)).lookup x = some (D.int (numOf w s x)) := by
  simp only [List.mem_cons, List.not_mem_nil, or_false] at h
  have e : ∀ a b c d e : Int, ∀ x ∈ whats, (whats.zip ([a, b, c, d, e].map D.int)).lookup x = some (D.int (((whats.zip [a, b, c, d, e]).lookup x).getD 0)) := by
    intro a b c d e x hx
    simp only [List.mem_cons, List.not_mem_nil, or_false] at hx
    have n1 : (Str.ofString "head" == Str.ofString "load") = false := by decide +kernel
    have n2 : (Str.ofString "waited" == Str.ofString "load") = false := by decide +kernel
    have n3 : (Str.ofString "waited" == Str.ofString "head") = false := by decide +kernel
    have n4 : (Str.ofString "lean" == Str.ofString "load") = false := by decide +kernel
    have n5 : (Str.ofString "lean" == Str.ofString "head") = false := by decide +kernel
    have n6 : (Str.ofString "lean" == Str.ofString "waited") = false := by decide +kernel
    have n7 : (Str.ofString "ahead" == Str.ofString "load") = false := by decide +kernel
    have n8 : (Str.ofString "ahead" == Str.ofString "head") = false := by decide +kernel
    have n9 : (Str.ofString "ahead" == Str.ofString "waited") = false := by decide +kernel
    have n10 : (Str.ofString "ahead" == Str.ofString "lean") = false := by decide +kernel
    rcases hx with rfl | rfl | rfl | rfl | rfl <;> simp only [whats, List.map_cons, List.map_nil, List.zip_cons_cons, List.zip_nil_right, List.lookup_cons, beq_self_eq_true, n1, n2, n3, n4, n5, n6, n7, n8, n9, n10, Option.getD_some]
  exact e _ _ _ _ _ x (by simpa using h)
def testZ (w : Wh) (s : Sd) (t : Tst) : Bool := decide (t.2.1 ≤ numOf w s t.1) && decide (numOf w s t.1 ≤ t.2.2)
def fireZ (w : Wh) (s : Sd) (l : Ln) : Bool := l.1.all (testZ w s) && mayZ w s l.2
def deedZ (w : Wh) (r : List Ln) (s : Sd) : Option Str := (r.find? (fireZ w s)).map (·.2)
def oD : Option Str → D
  | none => .non
  | some x => .str x
theorem lf_oD (o : Option Str) : lf (oD o) = true := by cases o <;> rfl
theorem deed_ok {n : Nat} {M : Mem} {w : Wh} {s : Sd} {r : List Ln} (hW : 50000 < W) (hw : w.Ok) (hs : SdOk w s) (hr : ROk r) : evalFn W defs (n + 4) 7 [wD w, rD r, sD s] M = some (oD (deedZ w r s), M) := by
  refine call_pure (M1 := []) (f := f_deed) rfl rfl rfl (by simp [lfL, lf]) ?_ (fz_lf (lf_oD _))
  simp only [runB, outR, exs, ex, ev, evs, evo, evi, t_nm, t_tp, t_nil, t_cons, startE, List.map_cons, List.map_nil, List.length_cons, List.length_nil, Nat.reduceAdd, Nat.reduceSub, Nat.sub_self, List.replicate, List.append_nil, List.cons_append, List.nil_append, List.getElem?_cons_zero, List.getElem?_cons_succ, List.set_cons_zero, List.set_cons_succ, Option.bind_some, Option.map_some, Option.bind_none, Option.map_none, asB_bl, if_true, if_false, Bool.false_eq_true, Bool.true_eq_false, o_add, o_sub, c_lt, c_le, c_gt, c_ge, c_is, c_isnt, isNon, c_eqi, c_nei, i_tup, i_lst, i_scr, i_sdc, s_tup, s_lst, b_lenT, b_lenL, b_tupL, b_tupT, b_sum, b_all, b_max, b_int, b_intB, b_abs, sr_tup, sr_lst, at0, at1, at2, at3, at4, at5, partI, wipeE, eq_self, decide_true, decide_false, Bool.and_true, Bool.true_and, Bool.and_false, Bool.false_and, Bool.or_false, Bool.false_or, Bool.or_true, Bool.true_or, if_and, if_or, z_src, z_len, z_tail, z_front, z_at0, z_last, z_one, wkt0, wkl0, wkm0, wkt1, wkl1, wkm1, wkt2, wkl2, wkm2, wkt3, wkl3, wkm3, wkt4, wkl4, wkm4, wkt5, wkl5, wkm5, wkt6, wkl6, wkm6, wkt7, wkl7, wkm7, wkt8, wkl8, wkm8, f_deed, c_deed, numbers_ok hW hw hs, r_src]
  have hn := hr.n
  generalize hX : forN _ _ _ _ _ _ _ = X
  have key : ∃ e2, X = foundR (fun l => .str l.2) (r.find? (fireZ w s)) e2 [] ∧ (r.find? (fireZ w s) = none → ∃ x4 x5 x6 x7 x8, e2 = [some (wD w), some (rD r), some (sD s), some (.sdc whats ((numZ w s).map .int)), x4, x5, x6, x7, x8]) := by
    rw [← hX]
    refine forN_find (xs := r) (F := lD) (I := fun e => ∃ x4 x5 x6 x7 x8, e = [some (wD w), some (rD r), some (sD s), some (.sdc whats ((numZ w s).map .int)), x4, x5, x6, x7, x8]) (fireZ w s) (fun l => .str l.2) ⟨none, none, none, none, none, rfl⟩ (fun l hl e he => ?_) (show r.length < W by omega)
    obtain ⟨x4, x5, x6, x7, x8, rfl⟩ := he
    have hlo := hr.l l hl
    have hn := hlo.n
    refine ⟨_, rfl, ?_⟩
    simp only [runB, outR, exs, ex, ev, evs, evo, evi, t_nm, t_tp, t_nil, t_cons, startE, List.map_cons, List.map_nil, List.length_cons, List.length_nil, Nat.reduceAdd, Nat.reduceSub, Nat.sub_self, List.replicate, List.append_nil, List.cons_append, List.nil_append, List.getElem?_cons_zero, List.getElem?_cons_succ, List.set_cons_zero, List.set_cons_succ, Option.bind_some, Option.map_some, Option.bind_none, Option.map_none, asB_bl, if_true, if_false, Bool.false_eq_true, Bool.true_eq_false, o_add, o_sub, c_lt, c_le, c_gt, c_ge, c_is, c_isnt, isNon, c_eqi, c_nei, i_tup, i_lst, i_scr, i_sdc, s_tup, s_lst, b_lenT, b_lenL, b_tupL, b_tupT, b_sum, b_all, b_max, b_int, b_intB, b_abs, sr_tup, sr_lst, at0, at1, at2, at3, at4, at5, partI, wipeE, eq_self, decide_true, decide_false, Bool.and_true, Bool.true_and, Bool.and_false, Bool.false_and, Bool.or_false, Bool.false_or, Bool.or_true, Bool.true_or, if_and, if_or, z_src, z_len, z_tail, z_front, z_at0, z_last, z_one, wkt0, wkl0, wkm0, wkt1, wkl1, wkm1, wkt2, wkl2, wkm2, wkt3, wkl3, wkm3, wkt4, wkl4, wkm4, wkt5, wkl5, wkm5, wkt6, wkl6, wkm6, wkt7, wkl7, wkm7, wkt8, wkl8, wkm8]
    rw [lcN_map (F := tD) (fun t => D.bl (testZ w s t))]
    · rw [show (fun t => D.bl (testZ w s t)) = (D.bl ∘ testZ w s) from rfl, ← List.map_map]
      simp only [runB, outR, exs, ex, ev, evs, evo, evi, t_nm, t_tp, t_nil, t_cons, startE, List.map_cons, List.map_nil, List.length_cons, List.length_nil, Nat.reduceAdd, Nat.reduceSub, Nat.sub_self, List.replicate, List.append_nil, List.cons_append, List.nil_append, List.getElem?_cons_zero, List.getElem?_cons_succ, List.set_cons_zero, List.set_cons_succ, Option.bind_some, Option.map_some, Option.bind_none, Option.map_none, asB_bl, if_true, if_false, Bool.false_eq_true, Bool.true_eq_false, o_add, o_sub, c_lt, c_le, c_gt, c_ge, c_is, c_isnt, isNon, c_eqi, c_nei, i_tup, i_lst, i_scr, i_sdc, s_tup, s_lst, b_lenT, b_lenL, b_tupL, b_tupT, b_sum, b_all, b_max, b_int, b_intB, b_abs, sr_tup, sr_lst, at0, at1, at2, at3, at4, at5, partI, wipeE, eq_self, decide_true, decide_false, Bool.and_true, Bool.true_and, Bool.and_false, Bool.false_and, Bool.or_false, Bool.false_or, Bool.or_true, Bool.true_or, if_and, if_or, z_src, z_len, z_tail, z_front, z_at0, z_last, z_one, wkt0, wkl0, wkm0, wkt1, wkl1, wkm1, wkt2, wkl2, wkm2, wkt3, wkl3, wkm3, wkt4, wkl4, wkm4, wkt5, wkl5, wkm5, wkt6, wkl6, wkm6, wkt7, wkl7, wkm7, wkt8, wkl8, wkm8, k_l (line_ge (show ((l.1.map (testZ w s)).map D.bl).length ≤ 100000 by simp; omega)), may_ok hW hw hs hlo.a, List.all_map]
      rw [show l.1.all (id ∘ testZ w s) = l.1.all (testZ w s) from rfl]
      cases h1 : l.1.all (testZ w s) <;> cases h2 : mayZ w s l.2 <;> simp [fireZ, h1, h2]
    · intro t ht
      have hto := hlo.t t ht
      refine ⟨_, rfl, ?_⟩
      simp only [runB, outR, exs, ex, ev, evs, evo, evi, t_nm, t_tp, t_nil, t_cons, startE, List.map_cons, List.map_nil, List.length_cons, List.length_nil, Nat.reduceAdd, Nat.reduceSub, Nat.sub_self, List.replicate, List.append_nil, List.cons_append, List.nil_append, List.getElem?_cons_zero, List.getElem?_cons_succ, List.set_cons_zero, List.set_cons_succ, Option.bind_some, Option.map_some, Option.bind_none, Option.map_none, asB_bl, if_true, if_false, Bool.false_eq_true, Bool.true_eq_false, o_add, o_sub, c_lt, c_le, c_gt, c_ge, c_is, c_isnt, isNon, c_eqi, c_nei, i_tup, i_lst, i_scr, i_sdc, s_tup, s_lst, b_lenT, b_lenL, b_tupL, b_tupT, b_sum, b_all, b_max, b_int, b_intB, b_abs, sr_tup, sr_lst, at0, at1, at2, at3, at4, at5, partI, wipeE, eq_self, decide_true, decide_false, Bool.and_true, Bool.true_and, Bool.and_false, Bool.false_and, Bool.or_false, Bool.false_or, Bool.or_true, Bool.true_or, if_and, if_or, z_src, z_len, z_tail, z_front, z_at0, z_last, z_one, wkt0, wkl0, wkm0, wkt1, wkl1, wkm1, wkt2, wkl2, wkm2, wkt3, wkl3, wkm3, wkt4, wkl4, wkm4, wkt5, wkl5, wkm5, wkt6, wkl6, wkm6, wkt7, wkl7, wkm7, wkt8, wkl8, wkm8, look_ok hto.w]
      rfl
    · exact line_ge (by omega)
    · omega
  obtain ⟨e2, rfl, _⟩ := key
  unfold deedZ
  cases r.find? (fireZ w s) <;> rfl
end
end K37
set_option Elab.async false
set_option linter.all false
set_option maxRecDepth 100000
set_option maxHeartbeats 1000000
namespace K37
open PySem PySem.Spec PyProof.Rows L2 Wf
section
variable {W : Nat}
theorem lean1 {n : Nat} {M : Mem} {w : Wh} {ls : List Int} (hW : 50000 < W) (hw : w.Ok) : evalFn W defs (n + 1) 14 [wD w, tZ ls] M = some (.int (leanZ w.ws ls), M) := lean_ok hW hw rfl rfl rfl rfl rfl
def fitsZ (w : Wh) (ls : List Int) : Bool := ls.all (fun x => decide (x ≤ w.room)) && uprightZ w ls
theorem b_idx {w : Wh} {M : Mem} : opIdx (.tup [.int w.lo, .int w.hi]) (.int 0) M = some (.int w.lo) := at0
theorem fits_ok {n : Nat} {M : Mem} {w : Wh} {ls : List Int} (hW : 50000 < W) (hw : w.Ok) (h1 : ls ≠ []) (h2 : ls.length ≤ 10) : evalFn W defs (n + 2) 15 [wD w, tZ ls] M = some (.bl (fitsZ w ls), M) := by
  refine call_pure (M1 := []) (f := f__law_fits) rfl rfl rfl (by simp [lfL]) ?_ (fz_lf rfl)
  simp only [runB, outR, exs, ex, ev, evs, evo, evi, t_nm, t_tp, t_nil, t_cons, startE, List.map_cons, List.map_nil, List.length_cons, List.length_nil, Nat.reduceAdd, Nat.reduceSub, Nat.sub_self, List.replicate, List.append_nil, List.cons_append, List.nil_append, List.getElem?_cons_zero, List.getElem?_cons_succ, List.set_cons_zero, List.set_cons_succ, Option.bind_some, Option.map_some, Option.bind_none, Option.map_none, asB_bl, if_true, if_false, Bool.false_eq_true, Bool.true_eq_false, o_add, o_sub, c_lt, c_le, c_gt, c_ge, c_is, c_isnt, isNon, c_eqi, c_nei, i_tup, i_lst, i_scr, i_sdc, s_tup, s_lst, b_lenT, b_lenL, b_tupL, b_tupT, b_sum, b_all, b_max, b_int, b_intB, b_abs, sr_tup, sr_lst, at0, at1, at2, at3, at4, at5, partI, wipeE, eq_self, decide_true, decide_false, Bool.and_true, Bool.true_and, Bool.and_false, Bool.false_and, Bool.or_false, Bool.false_or, Bool.or_true, Bool.true_or, if_and, if_or, z_src, z_len, z_tail, z_front, z_at0, z_last, z_one, wkt0, wkl0, wkm0, wkt1, wkl1, wkm1, wkt2, wkl2, wkm2, wkt3, wkl3, wkm3, wkt4, wkl4, wkm4, wkt5, wkl5, wkm5, wkt6, wkl6, wkm6, wkt7, wkl7, wkm7, wkt8, wkl8, wkm8, f__law_fits, c__law_fits, w1, w3, lean1 hW hw]
  rw [lcN_map (F := D.int) (fun x => D.int x) (fun x _ => ⟨_, rfl, by simp only [runB, outR, exs, ex, ev, evs, evo, evi, t_nm, t_tp, t_nil, t_cons, startE, List.map_cons, List.map_nil, List.length_cons, List.length_nil, Nat.reduceAdd, Nat.reduceSub, Nat.sub_self, List.replicate, List.append_nil, List.cons_append, List.nil_append, List.getElem?_cons_zero, List.getElem?_cons_succ, List.set_cons_zero, List.set_cons_succ, Option.bind_some, Option.map_some, Option.bind_none, Option.map_none, asB_bl, if_true, if_false, Bool.false_eq_true, Bool.true_eq_false, o_add, o_sub, c_lt, c_le, c_gt, c_ge, c_is, c_isnt, isNon, c_eqi, c_nei, i_tup, i_lst, i_scr, i_sdc, s_tup, s_lst, b_lenT, b_lenL, b_tupL, b_tupT, b_sum, b_all, b_max, b_int, b_intB, b_abs, sr_tup, sr_lst, at0, at1, at2, at3, at4, at5, partI, wipeE, eq_self, decide_true, decide_false, Bool.and_true, Bool.true_and, Bool.and_false, Bool.false_and, Bool.or_false, Bool.false_or, Bool.or_true, Bool.true_or, if_and, if_or, z_src, z_len, z_tail, z_front, z_at0, z_last, z_one, wkt0, wkl0, wkm0, wkt1, wkl1, wkm1, wkt2, wkl2, wkm2, wkt3, wkl3, wkm3, wkt4, wkl4, wkm4, wkt5, wkl5, wkm5, wkt6, wkl6, wkm6, wkt7, wkl7, wkm7, wkt8, wkl8, wkm8]⟩) (line_ge (by omega)) (by omega)]
  simp only [runB, outR, exs, ex, ev, evs, evo, evi, t_nm, t_tp, t_nil, t_cons, startE, List.map_cons, List.map_nil, List.length_cons, List.length_nil, Nat.reduceAdd, Nat.reduceSub, Nat.sub_self, List.replicate, List.append_nil, List.cons_append, List.nil_append, List.getElem?_cons_zero, List.getElem?_cons_succ, List.set_cons_zero, List.set_cons_succ, Option.bind_some, Option.map_some, Option.bind_none, Option.map_none, asB_bl, if_true, if_false, Bool.false_eq_true, Bool.true_eq_false, o_add, o_sub, c_lt, c_le, c_gt, c_ge, c_is, c_isnt, isNon, c_eqi, c_nei, i_tup, i_lst, i_scr, i_sdc, s_tup, s_lst, b_lenT, b_lenL, b_tupL, b_tupT, b_sum, b_all, b_max, b_int, b_intB, b_abs, sr_tup, sr_lst, at0, at1, at2, at3, at4, at5, partI, wipeE, eq_self, decide_true, decide_false, Bool.and_true, Bool.true_and, Bool.and_false, Bool.false_and, Bool.or_false, Bool.false_or, Bool.or_true, Bool.true_or, if_and, if_or, z_src, z_len, z_tail, z_front, z_at0, z_last, z_one, wkt0, wkl0, wkm0, wkt1, wkl1, wkm1, wkt2, wkl2, wkm2, wkt3, wkl3, wkm3, wkt4, wkl4, wkm4, wkt5, wkl5, wkm5, wkt6, wkl6, wkm6, wkt7, wkl7, wkm7, wkt8, wkl8, wkm8, k_l (line_ge (show (ls.map fun x => D.int x).length ≤ 100000 by simp; omega))]
  obtain ⟨m, hm⟩ := maxI_some h1
  simp only [runB, outR, exs, ex, ev, evs, evo, evi, t_nm, t_tp, t_nil, t_cons, startE, List.map_cons, List.map_nil, List.length_cons, List.length_nil, Nat.reduceAdd, Nat.reduceSub, Nat.sub_self, List.replicate, List.append_nil, List.cons_append, List.nil_append, List.getElem?_cons_zero, List.getElem?_cons_succ, List.set_cons_zero, List.set_cons_succ, Option.bind_some, Option.map_some, Option.bind_none, Option.map_none, asB_bl, if_true, if_false, Bool.false_eq_true, Bool.true_eq_false, o_add, o_sub, c_lt, c_le, c_gt, c_ge, c_is, c_isnt, isNon, c_eqi, c_nei, i_tup, i_lst, i_scr, i_sdc, s_tup, s_lst, b_lenT, b_lenL, b_tupL, b_tupT, b_sum, b_all, b_max, b_int, b_intB, b_abs, sr_tup, sr_lst, at0, at1, at2, at3, at4, at5, partI, wipeE, eq_self, decide_true, decide_false, Bool.and_true, Bool.true_and, Bool.and_false, Bool.false_and, Bool.or_false, Bool.false_or, Bool.or_true, Bool.true_or, if_and, if_or, z_src, z_len, z_tail, z_front, z_at0, z_last, z_one, wkt0, wkl0, wkm0, wkt1, wkl1, wkm1, wkt2, wkl2, wkm2, wkt3, wkl3, wkm3, wkt4, wkl4, wkm4, wkt5, wkl5, wkm5, wkt6, wkl6, wkm6, wkt7, wkl7, wkm7, wkt8, wkl8, wkm8, hm]
  have hle := maxI_le (r := w.room) hm
  by_cases hc : w.room < m
  · rw [decide_eq_true hc]
    simp only [runB, outR, exs, ex, ev, evs, evo, evi, t_nm, t_tp, t_nil, t_cons, startE, List.map_cons, List.map_nil, List.length_cons, List.length_nil, Nat.reduceAdd, Nat.reduceSub, Nat.sub_self, List.replicate, List.append_nil, List.cons_append, List.nil_append, List.getElem?_cons_zero, List.getElem?_cons_succ, List.set_cons_zero, List.set_cons_succ, Option.bind_some, Option.map_some, Option.bind_none, Option.map_none, asB_bl, if_true, if_false, Bool.false_eq_true, Bool.true_eq_false, o_add, o_sub, c_lt, c_le, c_gt, c_ge, c_is, c_isnt, isNon, c_eqi, c_nei, i_tup, i_lst, i_scr, i_sdc, s_tup, s_lst, b_lenT, b_lenL, b_tupL, b_tupT, b_sum, b_all, b_max, b_int, b_intB, b_abs, sr_tup, sr_lst, at0, at1, at2, at3, at4, at5, partI, wipeE, eq_self, decide_true, decide_false, Bool.and_true, Bool.true_and, Bool.and_false, Bool.false_and, Bool.or_false, Bool.false_or, Bool.or_true, Bool.true_or, if_and, if_or, z_src, z_len, z_tail, z_front, z_at0, z_last, z_one, wkt0, wkl0, wkm0, wkt1, wkl1, wkm1, wkt2, wkl2, wkm2, wkt3, wkl3, wkm3, wkt4, wkl4, wkm4, wkt5, wkl5, wkm5, wkt6, wkl6, wkm6, wkt7, wkl7, wkm7, wkt8, wkl8, wkm8, w3, lean1 hW hw]
    have : ls.all (fun x => decide (x ≤ w.room)) = false := by
      rw [Bool.eq_false_iff]
      intro z
      simp only [List.all_eq_true, decide_eq_true_eq] at z
      have := hle.mpr z
      omega
    simp [fitsZ, this]
  · rw [decide_eq_false hc]
    simp only [runB, outR, exs, ex, ev, evs, evo, evi, t_nm, t_tp, t_nil, t_cons, startE, List.map_cons, List.map_nil, List.length_cons, List.length_nil, Nat.reduceAdd, Nat.reduceSub, Nat.sub_self, List.replicate, List.append_nil, List.cons_append, List.nil_append, List.getElem?_cons_zero, List.getElem?_cons_succ, List.set_cons_zero, List.set_cons_succ, Option.bind_some, Option.map_some, Option.bind_none, Option.map_none, asB_bl, if_true, if_false, Bool.false_eq_true, Bool.true_eq_false, o_add, o_sub, c_lt, c_le, c_gt, c_ge, c_is, c_isnt, isNon, c_eqi, c_nei, i_tup, i_lst, i_scr, i_sdc, s_tup, s_lst, b_lenT, b_lenL, b_tupL, b_tupT, b_sum, b_all, b_max, b_int, b_intB, b_abs, sr_tup, sr_lst, at0, at1, at2, at3, at4, at5, partI, wipeE, eq_self, decide_true, decide_false, Bool.and_true, Bool.true_and, Bool.and_false, Bool.false_and, Bool.or_false, Bool.false_or, Bool.or_true, Bool.true_or, if_and, if_or, z_src, z_len, z_tail, z_front, z_at0, z_last, z_one, wkt0, wkl0, wkm0, wkt1, wkl1, wkm1, wkt2, wkl2, wkm2, wkt3, wkl3, wkm3, wkt4, wkl4, wkm4, wkt5, wkl5, wkm5, wkt6, wkl6, wkm6, wkt7, wkl7, wkm7, wkt8, wkl8, wkm8, w3, b_idx, lean1 hW hw]
    have : ls.all (fun x => decide (x ≤ w.room)) = true := by
      simp only [List.all_eq_true, decide_eq_true_eq]
      exact hle.mp (by omega)
    simp [fitsZ, this, uprightZ]
def behindZ (w : Wh) (s : Sd) (act : Str) : List Sd := if act = TURN then (if (decide (s.k < w.pat) && fitsZ w (turnedL s.loads)) = true then [afterZ s TURN 0] else []) else if fitsZ w (boardedL s.loads s.line) = true then w.sizes.map (fun z => afterZ s BOARD z) else []
theorem lf_sDs (ss : List Sd) : lf (.tup (ss.map sD)) = true := by simp only [lf, lfL_map fun s _ => lf_sD s]
theorem boarded_ne {ls ln : List Int} : boardedL ls ln ≠ [] := by simp [boardedL]
theorem boarded_len {ls ln : List Int} (h : ls ≠ []) : (boardedL ls ln).length = ls.length := by
  cases ls with
  | nil => exact absurd rfl h
  | cons a as => simp [boardedL]
theorem turned_ne {ls : List Int} : turnedL ls ≠ [] := by simp [turnedL]
theorem turned_len {ls : List Int} (h : ls ≠ []) : (turnedL ls).length = ls.length := by
  cases ls with
  | nil => exact absurd rfl h
  | cons a as => simp [turnedL]
theorem behind_ok {n : Nat} {M : Mem} {w : Wh} {s : Sd} {act : Str} (hW : 50000 < W) (hw : w.Ok) (hs : SdOk w s) (ha : act = BOARD ∨ act = TURN) : evalFn W defs (n + 3) 16 [wD w, sD s, .str act] M = some (.tup ((behindZ w s act).map sD), M) := by
  refine call_pure (M1 := []) (f := f__law_behind) rfl rfl rfl (by simp [lfL, lf]) ?_ (fz_lf (lf_sDs _))
  have e1 := hs.ne1 hw
  have e2 := hs.ne2 hw
  have e3 := hs.l10 hw
  have e4 := hs.n2
  have e5 := hw.k2
  have e6 := hw.s1
  rcases ha with rfl | rfl
  · obtain ⟨ls, ln, k⟩ := s
    cases ls with
    | nil => exact absurd rfl e1
    | cons a as =>
      cases ln with
      | nil => exact absurd rfl e2
      | cons b bs =>
        simp at e3 e4
        simp only [runB, outR, exs, ex, ev, evs, evo, evi, t_nm, t_tp, t_nil, t_cons, startE, List.map_cons, List.map_nil, List.length_cons, List.length_nil, Nat.reduceAdd, Nat.reduceSub, Nat.sub_self, List.replicate, List.append_nil, List.cons_append, List.nil_append, List.getElem?_cons_zero, List.getElem?_cons_succ, List.set_cons_zero, List.set_cons_succ, Option.bind_some, Option.map_some, Option.bind_none, Option.map_none, asB_bl, if_true, if_false, Bool.false_eq_true, Bool.true_eq_false, o_add, o_sub, c_lt, c_le, c_gt, c_ge, c_is, c_isnt, isNon, c_eqi, c_nei, i_tup, i_lst, i_scr, i_sdc, s_tup, s_lst, b_lenT, b_lenL, b_tupL, b_tupT, b_sum, b_all, b_max, b_int, b_intB, b_abs, sr_tup, sr_lst, at0, at1, at2, at3, at4, at5, partI, wipeE, eq_self, decide_true, decide_false, Bool.and_true, Bool.true_and, Bool.and_false, Bool.false_and, Bool.or_false, Bool.false_or, Bool.or_true, Bool.true_or, if_and, if_or, z_src, z_len, z_tail, z_front, z_at0, z_last, z_one, wkt0, wkl0, wkm0, wkt1, wkl1, wkm1, wkt2, wkl2, wkm2, wkt3, wkl3, wkm3, wkt4, wkl4, wkm4, wkt5, wkl5, wkm5, wkt6, wkl6, wkm6, wkt7, wkl7, wkm7, wkt8, wkl8, wkm8, f__law_behind, c__law_behind, sD, c_eqs okB okT, bT, w2, z_add (show [a + b].length + as.length ≤ sizeLine by simp; exact line_ge (by omega))]
        have hf := fits_ok (n := n) (M := []) (ls := (a + b) :: as) hW hw (by simp) (by simp; omega)
        have hb : (a + b) :: as = boardedL (a :: as) (b :: bs) := rfl
        simp only [behindZ, if_neg (of_decide_eq_false bT), ← hb]
        cases hc : fitsZ w ((a + b) :: as)
        · simp only [runB, outR, exs, ex, ev, evs, evo, evi, t_nm, t_tp, t_nil, t_cons, startE, List.map_cons, List.map_nil, List.length_cons, List.length_nil, Nat.reduceAdd, Nat.reduceSub, Nat.sub_self, List.replicate, List.append_nil, List.cons_append, List.nil_append, List.getElem?_cons_zero, List.getElem?_cons_succ, List.set_cons_zero, List.set_cons_succ, Option.bind_some, Option.map_some, Option.bind_none, Option.map_none, asB_bl, if_true, if_false, Bool.false_eq_true, Bool.true_eq_false, o_add, o_sub, c_lt, c_le, c_gt, c_ge, c_is, c_isnt, isNon, c_eqi, c_nei, i_tup, i_lst, i_scr, i_sdc, s_tup, s_lst, b_lenT, b_lenL, b_tupL, b_tupT, b_sum, b_all, b_max, b_int, b_intB, b_abs, sr_tup, sr_lst, at0, at1, at2, at3, at4, at5, partI, wipeE, eq_self, decide_true, decide_false, Bool.and_true, Bool.true_and, Bool.and_false, Bool.false_and, Bool.or_false, Bool.false_or, Bool.or_true, Bool.true_or, if_and, if_or, z_src, z_len, z_tail, z_front, z_at0, z_last, z_one, wkt0, wkl0, wkm0, wkt1, wkl1, wkm1, wkt2, wkl2, wkm2, wkt3, wkl3, wkm3, wkt4, wkl4, wkm4, wkt5, wkl5, wkm5, wkt6, wkl6, wkm6, wkt7, wkl7, wkm7, wkt8, wkl8, wkm8, hf, hc, Bool.not_false]
        · simp only [runB, outR, exs, ex, ev, evs, evo, evi, t_nm, t_tp, t_nil, t_cons, startE, List.map_cons, List.map_nil, List.length_cons, List.length_nil, Nat.reduceAdd, Nat.reduceSub, Nat.sub_self, List.replicate, List.append_nil, List.cons_append, List.nil_append, List.getElem?_cons_zero, List.getElem?_cons_succ, List.set_cons_zero, List.set_cons_succ, Option.bind_some, Option.map_some, Option.bind_none, Option.map_none, asB_bl, if_true, if_false, Bool.false_eq_true, Bool.true_eq_false, o_add, o_sub, c_lt, c_le, c_gt, c_ge, c_is, c_isnt, isNon, c_eqi, c_nei, i_tup, i_lst, i_scr, i_sdc, s_tup, s_lst, b_lenT, b_lenL, b_tupL, b_tupT, b_sum, b_all, b_max, b_int, b_intB, b_abs, sr_tup, sr_lst, at0, at1, at2, at3, at4, at5, partI, wipeE, eq_self, decide_true, decide_false, Bool.and_true, Bool.true_and, Bool.and_false, Bool.false_and, Bool.or_false, Bool.false_or, Bool.or_true, Bool.true_or, if_and, if_or, z_src, z_len, z_tail, z_front, z_at0, z_last, z_one, wkt0, wkl0, wkm0, wkt1, wkl1, wkm1, wkt2, wkl2, wkm2, wkt3, wkl3, wkm3, wkt4, wkl4, wkm4, wkt5, wkl5, wkm5, wkt6, wkl6, wkm6, wkt7, wkl7, wkm7, wkt8, wkl8, wkm8, hf, hc, w2, Bool.not_true]
          rw [lcN_map (F := D.int) (fun z => sD (afterZ ⟨a :: as, b :: bs, k⟩ BOARD z))]
          · simp only [runB, outR, exs, ex, ev, evs, evo, evi, t_nm, t_tp, t_nil, t_cons, startE, List.map_cons, List.map_nil, List.length_cons, List.length_nil, Nat.reduceAdd, Nat.reduceSub, Nat.sub_self, List.replicate, List.append_nil, List.cons_append, List.nil_append, List.getElem?_cons_zero, List.getElem?_cons_succ, List.set_cons_zero, List.set_cons_succ, Option.bind_some, Option.map_some, Option.bind_none, Option.map_none, asB_bl, if_true, if_false, Bool.false_eq_true, Bool.true_eq_false, o_add, o_sub, c_lt, c_le, c_gt, c_ge, c_is, c_isnt, isNon, c_eqi, c_nei, i_tup, i_lst, i_scr, i_sdc, s_tup, s_lst, b_lenT, b_lenL, b_tupL, b_tupT, b_sum, b_all, b_max, b_int, b_intB, b_abs, sr_tup, sr_lst, at0, at1, at2, at3, at4, at5, partI, wipeE, eq_self, decide_true, decide_false, Bool.and_true, Bool.true_and, Bool.and_false, Bool.false_and, Bool.or_false, Bool.false_or, Bool.or_true, Bool.true_or, if_and, if_or, z_src, z_len, z_tail, z_front, z_at0, z_last, z_one, wkt0, wkl0, wkm0, wkt1, wkl1, wkm1, wkt2, wkl2, wkm2, wkt3, wkl3, wkm3, wkt4, wkl4, wkm4, wkt5, wkl5, wkm5, wkt6, wkl6, wkm6, wkt7, wkl7, wkm7, wkt8, wkl8, wkm8, k_l (line_ge (show (w.sizes.map fun z => sD (afterZ ⟨a :: as, b :: bs, k⟩ BOARD z)).length ≤ 100000 by simp; omega)), List.map_map]
            rfl
          · intro z hz
            refine ⟨_, rfl, ?_⟩
            simp only [runB, outR, exs, ex, ev, evs, evo, evi, t_nm, t_tp, t_nil, t_cons, startE, List.map_cons, List.map_nil, List.length_cons, List.length_nil, Nat.reduceAdd, Nat.reduceSub, Nat.sub_self, List.replicate, List.append_nil, List.cons_append, List.nil_append, List.getElem?_cons_zero, List.getElem?_cons_succ, List.set_cons_zero, List.set_cons_succ, Option.bind_some, Option.map_some, Option.bind_none, Option.map_none, asB_bl, if_true, if_false, Bool.false_eq_true, Bool.true_eq_false, o_add, o_sub, c_lt, c_le, c_gt, c_ge, c_is, c_isnt, isNon, c_eqi, c_nei, i_tup, i_lst, i_scr, i_sdc, s_tup, s_lst, b_lenT, b_lenL, b_tupL, b_tupT, b_sum, b_all, b_max, b_int, b_intB, b_abs, sr_tup, sr_lst, at0, at1, at2, at3, at4, at5, partI, wipeE, eq_self, decide_true, decide_false, Bool.and_true, Bool.true_and, Bool.and_false, Bool.false_and, Bool.or_false, Bool.false_or, Bool.or_true, Bool.true_or, if_and, if_or, z_src, z_len, z_tail, z_front, z_at0, z_last, z_one, wkt0, wkl0, wkm0, wkt1, wkl1, wkm1, wkt2, wkl2, wkm2, wkt3, wkl3, wkm3, wkt4, wkl4, wkm4, wkt5, wkl5, wkm5, wkt6, wkl6, wkm6, wkt7, wkl7, wkm7, wkt8, wkl8, wkm8, z_add (show bs.length + [z].length ≤ sizeLine by simp; exact line_ge (by omega))]
            simp only [afterZ, if_pos (of_decide_eq_true bB)]
            rfl
          · exact line_ge (by omega)
          · omega
  · obtain ⟨ls, ln, k⟩ := s
    simp only [runB, outR, exs, ex, ev, evs, evo, evi, t_nm, t_tp, t_nil, t_cons, startE, List.map_cons, List.map_nil, List.length_cons, List.length_nil, Nat.reduceAdd, Nat.reduceSub, Nat.sub_self, List.replicate, List.append_nil, List.cons_append, List.nil_append, List.getElem?_cons_zero, List.getElem?_cons_succ, List.set_cons_zero, List.set_cons_succ, Option.bind_some, Option.map_some, Option.bind_none, Option.map_none, asB_bl, if_true, if_false, Bool.false_eq_true, Bool.true_eq_false, o_add, o_sub, c_lt, c_le, c_gt, c_ge, c_is, c_isnt, isNon, c_eqi, c_nei, i_tup, i_lst, i_scr, i_sdc, s_tup, s_lst, b_lenT, b_lenL, b_tupL, b_tupT, b_sum, b_all, b_max, b_int, b_intB, b_abs, sr_tup, sr_lst, at0, at1, at2, at3, at4, at5, partI, wipeE, eq_self, decide_true, decide_false, Bool.and_true, Bool.true_and, Bool.and_false, Bool.false_and, Bool.or_false, Bool.false_or, Bool.or_true, Bool.true_or, if_and, if_or, z_src, z_len, z_tail, z_front, z_at0, z_last, z_one, wkt0, wkl0, wkm0, wkt1, wkl1, wkm1, wkt2, wkl2, wkm2, wkt3, wkl3, wkm3, wkt4, wkl4, wkm4, wkt5, wkl5, wkm5, wkt6, wkl6, wkm6, wkt7, wkl7, wkm7, wkt8, wkl8, wkm8, f__law_behind, c__law_behind, sD, c_eqs okT okT, tT, w4, z_add (show [(0 : Int)].length + ls.dropLast.length ≤ sizeLine by simp at e3 ⊢; exact line_ge (by omega))]
    have hf := fits_ok (n := n) (M := []) (ls := 0 :: ls.dropLast) hW hw (by simp) (by simp at e3 ⊢; omega)
    have hb : (0 : Int) :: ls.dropLast = turnedL ls := rfl
    simp only [behindZ, if_pos (of_decide_eq_true tT), ← hb]
    cases hc : (decide (k < w.pat) && fitsZ w ((0 : Int) :: ls.dropLast))
    · simp only [runB, outR, exs, ex, ev, evs, evo, evi, t_nm, t_tp, t_nil, t_cons, startE, List.map_cons, List.map_nil, List.length_cons, List.length_nil, Nat.reduceAdd, Nat.reduceSub, Nat.sub_self, List.replicate, List.append_nil, List.cons_append, List.nil_append, List.getElem?_cons_zero, List.getElem?_cons_succ, List.set_cons_zero, List.set_cons_succ, Option.bind_some, Option.map_some, Option.bind_none, Option.map_none, asB_bl, if_true, if_false, Bool.false_eq_true, Bool.true_eq_false, o_add, o_sub, c_lt, c_le, c_gt, c_ge, c_is, c_isnt, isNon, c_eqi, c_nei, i_tup, i_lst, i_scr, i_sdc, s_tup, s_lst, b_lenT, b_lenL, b_tupL, b_tupT, b_sum, b_all, b_max, b_int, b_intB, b_abs, sr_tup, sr_lst, at0, at1, at2, at3, at4, at5, partI, wipeE, eq_self, decide_true, decide_false, Bool.and_true, Bool.true_and, Bool.and_false, Bool.false_and, Bool.or_false, Bool.false_or, Bool.or_true, Bool.true_or, if_and, if_or, z_src, z_len, z_tail, z_front, z_at0, z_last, z_one, wkt0, wkl0, wkm0, wkt1, wkl1, wkm1, wkt2, wkl2, wkm2, wkt3, wkl3, wkm3, wkt4, wkl4, wkm4, wkt5, wkl5, wkm5, wkt6, wkl6, wkm6, wkt7, wkl7, wkm7, wkt8, wkl8, wkm8, hf, hc]
    · simp only [runB, outR, exs, ex, ev, evs, evo, evi, t_nm, t_tp, t_nil, t_cons, startE, List.map_cons, List.map_nil, List.length_cons, List.length_nil, Nat.reduceAdd, Nat.reduceSub, Nat.sub_self, List.replicate, List.append_nil, List.cons_append, List.nil_append, List.getElem?_cons_zero, List.getElem?_cons_succ, List.set_cons_zero, List.set_cons_succ, Option.bind_some, Option.map_some, Option.bind_none, Option.map_none, asB_bl, if_true, if_false, Bool.false_eq_true, Bool.true_eq_false, o_add, o_sub, c_lt, c_le, c_gt, c_ge, c_is, c_isnt, isNon, c_eqi, c_nei, i_tup, i_lst, i_scr, i_sdc, s_tup, s_lst, b_lenT, b_lenL, b_tupL, b_tupT, b_sum, b_all, b_max, b_int, b_intB, b_abs, sr_tup, sr_lst, at0, at1, at2, at3, at4, at5, partI, wipeE, eq_self, decide_true, decide_false, Bool.and_true, Bool.true_and, Bool.and_false, Bool.false_and, Bool.or_false, Bool.false_or, Bool.or_true, Bool.true_or, if_and, if_or, z_src, z_len, z_tail, z_front, z_at0, z_last, z_one, wkt0, wkl0, wkm0, wkt1, wkl1, wkm1, wkt2, wkl2, wkm2, wkt3, wkl3, wkm3, wkt4, wkl4, wkm4, wkt5, wkl5, wkm5, wkt6, wkl6, wkm6, wkt7, wkl7, wkm7, wkt8, wkl8, wkm8, hf, hc]
      simp only [afterZ, if_neg (of_decide_eq_false tB)]
      rfl
end
end K37
set_option Elab.async false
set_option linter.all false
set_option maxRecDepth 100000
set_option maxHeartbeats 1000000
namespace K37
open PySem PySem.Spec PyProof.Rows L2 Wf
section
variable {W : Nat}
def sP (s : Sd) : PyData := .tuple [.tuple (s.loads.map .int), .tuple (s.line.map .int), .int s.k]
theorem py_sD (s : Sd) : py (sD s) = some (sP s) := by
  simp only [sD, py, pyL, py_tZ, Option.bind_some, Option.map_some, sP]
theorem gd_sP (s : Sd) : gd' 2 (sP s) := gd_tup fun p hp => by
  simp only [List.mem_cons, List.not_mem_nil, or_false] at hp
  rcases hp with rfl | rfl | rfl
  · exact gd_tZ _
  · exact gd_tZ _
  · exact gd_int.mono (by omega)
theorem fit_turned {w : Wh} {s : Sd} (hw : w.Ok) (hs : SdOk w s) : fitsZ w (turnedL s.loads) = uprightZ w (turnedL s.loads) := by
  have : (turnedL s.loads).all (fun x => decide (x ≤ w.room)) = true := by
    simp only [turnedL, List.all_cons, Bool.and_eq_true, List.all_eq_true, decide_eq_true_eq]
    refine ⟨by have := hw.r1; omega, fun x hx => (hs.b1 x (List.dropLast_subset _ hx)).2⟩
  simp only [fitsZ, this, Bool.true_and]
theorem fit_boarded {w : Wh} {s : Sd} (hw : w.Ok) (hs : SdOk w s) : fitsZ w (boardedL s.loads s.line) = (decide (s.loads.headD 0 + s.line.headD 0 ≤ w.room) && uprightZ w (boardedL s.loads s.line)) := by
  have : s.loads.tail.all (fun x => decide (x ≤ w.room)) = true := by
    simp only [List.all_eq_true, decide_eq_true_eq]
    exact fun x hx => (hs.b1 x (List.mem_of_mem_tail hx)).2
  simp only [fitsZ]
  congr 1
  simp only [boardedL, List.all_cons, this, Bool.and_true]
theorem behind_may {w : Wh} {s : Sd} {act : Str} (hw : w.Ok) (hs : SdOk w s) (ha : act = BOARD ∨ act = TURN) : (!(behindZ w s act).isEmpty) = mayZ w s act := by
  rcases ha with rfl | rfl
  · simp only [behindZ, if_neg (of_decide_eq_false bT), mayZ, if_pos (of_decide_eq_true bB), fit_boarded hw hs]
    split
    · rename_i h
      rw [h]
      have := hw.s0
      cases hz : w.sizes with
      | nil => exact absurd hz this
      | cons a as => rfl
    · rename_i h
      simpa using h
  · unfold behindZ mayZ
    rw [if_pos (of_decide_eq_true tT), if_neg (of_decide_eq_false tB), fit_turned hw hs]
    split
    · rename_i h
      rw [h]; rfl
    · rename_i h
      simpa using h
theorem okW {x : Str} (h : x ∈ whats) : sOk x = true := by
  simp only [List.mem_cons, List.not_mem_nil, or_false] at h
  rcases h with rfl | rfl | rfl | rfl | rfl <;> decide +kernel
theorem wrong_eq {ts : List Tst} {M : Mem} (h : ∀ t ∈ ts, t.1 ∈ whats) : opCmp .eq (.lst (ts.map fun t => D.str t.1)) (.lst []) M = some ts.isEmpty := by
  rw [cmp_eq (n := 1) (m := 1) (p := .list (ts.map fun t => PyData.str t.1)) (q := .list []) (by rw [lf]; exact lfL_map fun _ _ => rfl) rfl (by simp only [py, pyL_map (F := fun t : Tst => D.str t.1) (G := fun t => PyData.str t.1) fun _ _ => rfl, Option.map_some]) rfl
    (gd_lst fun p hp => by
      obtain ⟨t, ht, rfl⟩ := List.mem_map.mp hp
      exact gd_str (okW (h t ht))) (gd_lst fun p hp => by simp at hp) (by omega) (by omega), eqv_nilL]
  cases ts <;> rfl
theorem behind_ne {ss : List Sd} {M : Mem} : opCmp .ne (.tup (ss.map sD)) (.tup []) M = some (!ss.isEmpty) := by
  rw [cmp_ne (n := 3) (m := 1) (p := .tuple (ss.map sP)) (q := .tuple []) (lf_sDs ss) rfl (by simp only [py, pyL_map (F := sD) (G := sP) fun s _ => py_sD s, Option.map_some]) rfl
    (gd_tup fun p hp => by
      obtain ⟨s, hs, rfl⟩ := List.mem_map.mp hp
      exact gd_sP s) (gd_tup fun p hp => by simp at hp) (by omega) (by omega), eqv_nilT]
  cases ss <;> rfl
theorem fires {w : Wh} {s : Sd} {l : Ln} (hw : w.Ok) (hs : SdOk w s) (hl : LOk l) : ((l.1.filter fun t => !testZ w s t).isEmpty && !(behindZ w s l.2).isEmpty) = fireZ w s l := by
  rw [behind_may hw hs hl.a]
  unfold fireZ
  congr 1
  induction l.1 with
  | nil => rfl
  | cons t ts ih =>
    rw [List.filter_cons, List.all_cons]
    cases testZ w s t <;> simp_all
theorem deed_of_ok {n : Nat} {M : Mem} {w : Wh} {s : Sd} {r : List Ln} (hW : 50000 < W) (hw : w.Ok) (hs : SdOk w s) (hr : ROk r) : evalFn W defs (n + 4) 18 [wD w, rD r, sD s] M = some (oD (deedZ w r s), M) := by
  have e1 := hs.ne1 hw
  have e2 := hs.ne2 hw
  have e3 := hs.l10 hw
  refine call_pure (M1 := [.sdc whats ((numZ w s).map .int)]) (f := f__law_deed_of) rfl rfl rfl (by simp [lfL, lf]) ?_ (fz_lf (lf_oD _))
  have hs' := hs
  obtain ⟨ls, ln, k⟩ := s
  have hz : opBin .add false (tZ [0]) (tZ ls.dropLast) [.sdc (whats.take 4) [.int (ls.headD 0), .int (ln.headD 0), .int k, .int (leanZ w.ws ls)]] = some (tZ (turnedL ls), [.sdc (whats.take 4) [.int (ls.headD 0), .int (ln.headD 0), .int k, .int (leanZ w.ws ls)]]) := by
    rw [z_add (by simp at e3 ⊢; exact line_ge (by omega))]
    rfl
  have hh1 : ∀ M : Mem, opIdx (tZ ls) (.int 0) M = some (.int (ls.headD 0)) := fun M => by
    cases ls with
    | nil => exact absurd rfl e1
    | cons a as => exact at0
  have hh2 : ∀ M : Mem, opIdx (tZ ln) (.int 0) M = some (.int (ln.headD 0)) := fun M => by
    cases ln with
    | nil => exact absurd rfl e2
    | cons a as => exact at0
  simp only [whats, List.take] at hz
  have hn := hr.n
  simp only [runB, outR, exs, ex, ev, evs, evo, evi, t_nm, t_tp, t_nil, t_cons, startE, List.map_cons, List.map_nil, List.length_cons, List.length_nil, Nat.reduceAdd, Nat.reduceSub, Nat.sub_self, List.replicate, List.append_nil, List.cons_append, List.nil_append, List.getElem?_cons_zero, List.getElem?_cons_succ, List.set_cons_zero, List.set_cons_succ, Option.bind_some, Option.map_some, Option.bind_none, Option.map_none, asB_bl, if_true, if_false, Bool.false_eq_true, Bool.true_eq_false, o_add, o_sub, c_lt, c_le, c_gt, c_ge, c_is, c_isnt, isNon, c_eqi, c_nei, i_tup, i_lst, i_scr, i_sdc, s_tup, s_lst, b_lenT, b_lenL, b_tupL, b_tupT, b_sum, b_all, b_max, b_int, b_intB, b_abs, sr_tup, sr_lst, at0, at1, at2, at3, at4, at5, partI, wipeE, eq_self, decide_true, decide_false, Bool.and_true, Bool.true_and, Bool.and_false, Bool.false_and, Bool.or_false, Bool.false_or, Bool.or_true, Bool.true_or, if_and, if_or, z_src, z_len, z_tail, z_front, z_at0, z_last, z_one, wkt0, wkl0, wkm0, wkt1, wkl1, wkm1, wkt2, wkl2, wkm2, wkt3, wkl3, wkm3, wkt4, wkl4, wkm4, wkt5, wkl5, wkm5, wkt6, wkl6, wkm6, wkt7, wkl7, wkm7, wkt8, wkl8, wkm8, f__law_deed_of, c__law_deed_of, sD, hh1, hh2, lean1 hW hw, hz, r_src]
  rw [sb_str rfl (by decide +kernel) (by simp)]
  simp only [runB, outR, exs, ex, ev, evs, evo, evi, t_nm, t_tp, t_nil, t_cons, startE, List.map_cons, List.map_nil, List.length_cons, List.length_nil, Nat.reduceAdd, Nat.reduceSub, Nat.sub_self, List.replicate, List.append_nil, List.cons_append, List.nil_append, List.getElem?_cons_zero, List.getElem?_cons_succ, List.set_cons_zero, List.set_cons_succ, Option.bind_some, Option.map_some, Option.bind_none, Option.map_none, asB_bl, if_true, if_false, Bool.false_eq_true, Bool.true_eq_false, o_add, o_sub, c_lt, c_le, c_gt, c_ge, c_is, c_isnt, isNon, c_eqi, c_nei, i_tup, i_lst, i_scr, i_sdc, s_tup, s_lst, b_lenT, b_lenL, b_tupL, b_tupT, b_sum, b_all, b_max, b_int, b_intB, b_abs, sr_tup, sr_lst, at0, at1, at2, at3, at4, at5, partI, wipeE, eq_self, decide_true, decide_false, Bool.and_true, Bool.true_and, Bool.and_false, Bool.false_and, Bool.or_false, Bool.false_or, Bool.or_true, Bool.true_or, if_and, if_or, z_src, z_len, z_tail, z_front, z_at0, z_last, z_one, wkt0, wkl0, wkm0, wkt1, wkl1, wkm1, wkt2, wkl2, wkm2, wkt3, wkl3, wkm3, wkt4, wkl4, wkm4, wkt5, wkl5, wkm5, wkt6, wkl6, wkm6, wkt7, wkl7, wkm7, wkt8, wkl8, wkm8, r_src]
  have hi : ∀ x ∈ whats, opIdx (.loc 0) (.str x) [Cn.sdc ["load", "head", "waited", "lean", "ahead"] [.int (ls.headD 0), .int (ln.headD 0), .int k, .int (leanZ w.ws ls), .int (leanZ w.ws (turnedL ls))]] = some (.int (numOf w ⟨ls, ln, k⟩ x)) := fun x hx => by
    rw [i_locs (M := [Cn.sdc ["load", "head", "waited", "lean", "ahead"] [.int (ls.headD 0), .int (ln.headD 0), .int k, .int (leanZ w.ws ls), .int (leanZ w.ws (turnedL ls))]]) (n := 0) rfl]
    exact look_ok (w := w) (s := ⟨ls, ln, k⟩) hx
  generalize hX : forN _ _ _ _ _ _ _ = X
  have key : ∃ e2, X = foundR (fun l => .str l.2) (r.find? (fireZ w ⟨ls, ln, k⟩)) e2 [.sdc whats ((numZ w ⟨ls, ln, k⟩).map .int)] ∧ (r.find? (fireZ w ⟨ls, ln, k⟩) = none → ∃ x7 x8 x9 x10 x11 x12, e2 = [some (wD w), some (rD r), some (sD ⟨ls, ln, k⟩), some (tZ ls), some (tZ ln), some (.int k), some (.loc 0), x7, x8, x9, x10, x11, x12]) := by
    rw [← hX]
    refine forN_find (xs := r) (F := lD) (I := fun e => ∃ x7 x8 x9 x10 x11 x12, e = [some (wD w), some (rD r), some (sD ⟨ls, ln, k⟩), some (tZ ls), some (tZ ln), some (.int k), some (.loc 0), x7, x8, x9, x10, x11, x12]) (fireZ w ⟨ls, ln, k⟩) (fun l => .str l.2) ⟨none, none, none, none, none, none, rfl⟩ (fun l hl e he => ?_) (show r.length < W by omega)
    obtain ⟨x7, x8, x9, x10, x11, x12, rfl⟩ := he
    have hlo := hr.l l hl
    have hn := hlo.n
    refine ⟨_, rfl, ?_⟩
    simp only [runB, outR, exs, ex, ev, evs, evo, evi, t_nm, t_tp, t_nil, t_cons, startE, List.map_cons, List.map_nil, List.length_cons, List.length_nil, Nat.reduceAdd, Nat.reduceSub, Nat.sub_self, List.replicate, List.append_nil, List.cons_append, List.nil_append, List.getElem?_cons_zero, List.getElem?_cons_succ, List.set_cons_zero, List.set_cons_succ, Option.bind_some, Option.map_some, Option.bind_none, Option.map_none, asB_bl, if_true, if_false, Bool.false_eq_true, Bool.true_eq_false, o_add, o_sub, c_lt, c_le, c_gt, c_ge, c_is, c_isnt, isNon, c_eqi, c_nei, i_tup, i_lst, i_scr, i_sdc, s_tup, s_lst, b_lenT, b_lenL, b_tupL, b_tupT, b_sum, b_all, b_max, b_int, b_intB, b_abs, sr_tup, sr_lst, at0, at1, at2, at3, at4, at5, partI, wipeE, eq_self, decide_true, decide_false, Bool.and_true, Bool.true_and, Bool.and_false, Bool.false_and, Bool.or_false, Bool.false_or, Bool.or_true, Bool.true_or, if_and, if_or, z_src, z_len, z_tail, z_front, z_at0, z_last, z_one, wkt0, wkl0, wkm0, wkt1, wkl1, wkm1, wkt2, wkl2, wkm2, wkt3, wkl3, wkm3, wkt4, wkl4, wkm4, wkt5, wkl5, wkm5, wkt6, wkl6, wkm6, wkt7, wkl7, wkm7, wkt8, wkl8, wkm8]
    rw [lcN_fm (F := tD) (fun t => !testZ w ⟨ls, ln, k⟩ t) (fun t => D.str t.1)]
    · simp only [runB, outR, exs, ex, ev, evs, evo, evi, t_nm, t_tp, t_nil, t_cons, startE, List.map_cons, List.map_nil, List.length_cons, List.length_nil, Nat.reduceAdd, Nat.reduceSub, Nat.sub_self, List.replicate, List.append_nil, List.cons_append, List.nil_append, List.getElem?_cons_zero, List.getElem?_cons_succ, List.set_cons_zero, List.set_cons_succ, Option.bind_some, Option.map_some, Option.bind_none, Option.map_none, asB_bl, if_true, if_false, Bool.false_eq_true, Bool.true_eq_false, o_add, o_sub, c_lt, c_le, c_gt, c_ge, c_is, c_isnt, isNon, c_eqi, c_nei, i_tup, i_lst, i_scr, i_sdc, s_tup, s_lst, b_lenT, b_lenL, b_tupL, b_tupT, b_sum, b_all, b_max, b_int, b_intB, b_abs, sr_tup, sr_lst, at0, at1, at2, at3, at4, at5, partI, wipeE, eq_self, decide_true, decide_false, Bool.and_true, Bool.true_and, Bool.and_false, Bool.false_and, Bool.or_false, Bool.false_or, Bool.or_true, Bool.true_or, if_and, if_or, z_src, z_len, z_tail, z_front, z_at0, z_last, z_one, wkt0, wkl0, wkm0, wkt1, wkl1, wkm1, wkt2, wkl2, wkm2, wkt3, wkl3, wkm3, wkt4, wkl4, wkm4, wkt5, wkl5, wkm5, wkt6, wkl6, wkm6, wkt7, wkl7, wkm7, wkt8, wkl8, wkm8, k_l (line_ge (show ((l.1.filter (fun t => !testZ w ⟨ls, ln, k⟩ t)).map fun t => D.str t.1).length ≤ 100000 by
        have := List.length_filter_le (fun t => !testZ w ⟨ls, ln, k⟩ t) l.1
        simp only [List.length_map]; omega)), wrong_eq (fun t ht => (hlo.t t (List.mem_filter.mp ht).1).w), behind_ok hW hw hs' hlo.a, behind_ne, fires hw hs' hlo]
      have hf := fires hw hs' hlo
      cases h1 : (l.1.filter fun t => !testZ w ⟨ls, ln, k⟩ t).isEmpty <;> cases h2 : (behindZ w ⟨ls, ln, k⟩ l.2).isEmpty <;> simp [← hf, h1, h2]
    · intro t ht
      have hto := hlo.t t ht
      refine ⟨_, rfl, ?_⟩
      simp only [runB, outR, exs, ex, ev, evs, evo, evi, t_nm, t_tp, t_nil, t_cons, startE, List.map_cons, List.map_nil, List.length_cons, List.length_nil, Nat.reduceAdd, Nat.reduceSub, Nat.sub_self, List.replicate, List.append_nil, List.cons_append, List.nil_append, List.getElem?_cons_zero, List.getElem?_cons_succ, List.set_cons_zero, List.set_cons_succ, Option.bind_some, Option.map_some, Option.bind_none, Option.map_none, asB_bl, if_true, if_false, Bool.false_eq_true, Bool.true_eq_false, o_add, o_sub, c_lt, c_le, c_gt, c_ge, c_is, c_isnt, isNon, c_eqi, c_nei, i_tup, i_lst, i_scr, i_sdc, s_tup, s_lst, b_lenT, b_lenL, b_tupL, b_tupT, b_sum, b_all, b_max, b_int, b_intB, b_abs, sr_tup, sr_lst, at0, at1, at2, at3, at4, at5, partI, wipeE, eq_self, decide_true, decide_false, Bool.and_true, Bool.true_and, Bool.and_false, Bool.false_and, Bool.or_false, Bool.false_or, Bool.or_true, Bool.true_or, if_and, if_or, z_src, z_len, z_tail, z_front, z_at0, z_last, z_one, wkt0, wkl0, wkm0, wkt1, wkl1, wkm1, wkt2, wkl2, wkm2, wkt3, wkl3, wkm3, wkt4, wkl4, wkm4, wkt5, wkl5, wkm5, wkt6, wkl6, wkm6, wkt7, wkl7, wkm7, wkt8, wkl8, wkm8, hi t.1 hto.w]
      exact ⟨rfl, fun _ => trivial⟩
    · exact line_ge (by omega)
    · omega
  obtain ⟨e2, rfl, _⟩ := key
  unfold deedZ
  cases r.find? (fireZ w ⟨ls, ln, k⟩) <;> rfl
end
end K37
set_option Elab.async false
set_option linter.all false
set_option maxRecDepth 100000
set_option maxHeartbeats 1000000
namespace K37
open PySem PySem.Spec PyProof.Rows L2 Wf
section
variable {W : Nat}
abbrev Row := Sd × Option Str
def eD (x : Row) : D := .tup [sD x.1, oD x.2]
def runZ (w : Wh) (r : List Ln) (q : List Int) : Nat → Sd → Nat → List Row
  | 0, _, _ => []
  | f + 1, s, seen => (s, deedZ w r s) :: (match deedZ w r s with
    | none => []
    | some a => if a = BOARD then (if seen = q.length then [] else runZ w r q f (afterZ s BOARD (q.getD seen 0)) (seen + 1)) else runZ w r q f (afterZ s TURN 0) seen)
def mu' (w : Wh) (q : List Int) (s : Sd) (seen : Nat) : Nat := (q.length - seen) * (w.pat.toNat + 1) + (w.pat - s.k).toNat
theorem deed_cases {w : Wh} {r : List Ln} {s : Sd} (hr : ROk r) : deedZ w r s = none ∨ (deedZ w r s = some BOARD ∧ mayZ w s BOARD = true) ∨ (deedZ w r s = some TURN ∧ mayZ w s TURN = true) := by
  unfold deedZ
  cases h : r.find? (fireZ w s) with
  | none => exact .inl rfl
  | some l =>
    have hm := List.mem_of_find?_eq_some h
    have hp := List.find?_some h
    simp only [fireZ, Bool.and_eq_true] at hp
    rcases (hr.l l hm).a with e | e
    · rw [e] at hp
      exact .inr (.inl ⟨by simp [e], hp.2⟩)
    · rw [e] at hp
      exact .inr (.inr ⟨by simp [e], hp.2⟩)
theorem after_board {w : Wh} {s : Sd} {z : Int} (hw : w.Ok) (hs : SdOk w s) (hm : mayZ w s BOARD = true) (hz : 1 ≤ z ∧ z ≤ 4) : SdOk w (afterZ s BOARD z) := by
  have e1 := hs.ne1 hw
  have e2 := hs.ne2 hw
  have h1 := hs.n1
  have h2 := hs.n2
  have h3 := hs.b1
  have h4 := hs.b2
  simp only [mayZ_B, Bool.and_eq_true, decide_eq_true_eq] at hm
  obtain ⟨ls, ln, k⟩ := s
  cases ls with
  | nil => exact absurd rfl e1
  | cons a as =>
    cases ln with
    | nil => exact absurd rfl e2
    | cons b bs =>
      simp only [List.headD_cons] at hm
      simp only [afterZ_B]
      refine ⟨by simpa [boardedL] using h1, by simpa using h2, ?_, ?_, by simp, by have := hw.p1; simp; omega⟩
      · intro x hx
        simp only [boardedL, List.headD_cons, List.tail_cons, List.mem_cons] at hx
        rcases hx with rfl | hx
        · have := (h3 a (.head _)).1
          have := (h4 b (.head _)).1
          omega
        · exact h3 x (.tail _ hx)
      · intro x hx
        simp only [List.tail_cons, List.mem_append, List.mem_singleton] at hx
        rcases hx with hx | rfl
        · exact h4 x (.tail _ hx)
        · exact hz
theorem after_turn {w : Wh} {s : Sd} (hw : w.Ok) (hs : SdOk w s) (hm : mayZ w s TURN = true) : SdOk w (afterZ s TURN 0) := by
  have e1 := hs.ne1 hw
  have h1 := hs.n1
  have h2 := hs.n2
  have h3 := hs.b1
  have h4 := hs.b2
  have h5 := hs.k1
  simp only [mayZ_T, Bool.and_eq_true, decide_eq_true_eq] at hm
  simp only [afterZ_T]
  refine ⟨by rw [turned_len e1]; exact h1, h2, ?_, h4, by simp; omega, by simp; omega⟩
  intro x hx
  simp only [turnedL, List.mem_cons] at hx
  rcases hx with rfl | hx
  · have := hw.r1; omega
  · exact h3 x (List.dropLast_subset _ hx)
theorem mu_board {w : Wh} {q : List Int} {s : Sd} {seen : Nat} {z : Int} (hw : w.Ok) (h : seen < q.length) : mu' w q (afterZ s BOARD z) (seen + 1) < mu' w q s seen := by
  have e : afterZ s BOARD z = ⟨boardedL s.loads s.line, s.line.tail ++ [z], 0⟩ := afterZ_B
  unfold mu'
  rw [e]
  obtain ⟨d, hd⟩ : ∃ d, q.length - seen = d + 1 := ⟨q.length - seen - 1, by omega⟩
  rw [hd, show q.length - (seen + 1) = d by omega, Nat.add_mul]
  simp only [Int.sub_zero]
  omega
theorem mu_turn {w : Wh} {q : List Int} {s : Sd} {seen : Nat} (hw : w.Ok) (hs : SdOk w s) (hm : mayZ w s TURN = true) : mu' w q (afterZ s TURN 0) seen < mu' w q s seen := by
  have e : afterZ s TURN 0 = ⟨turnedL s.loads, s.line, s.k + 1⟩ := afterZ_T
  simp only [mayZ_T, Bool.and_eq_true, decide_eq_true_eq] at hm
  unfold mu'
  rw [e]
  simp only
  have := hs.k1
  omega
structure QOk (w : Wh) (q : List Int) : Prop where
  l : w.look ≤ q.length
  n : q.length ≤ 5000
  b : ∀ x ∈ q, x ∈ w.sizes
def start (w : Wh) (q : List Int) : Sd := ⟨List.replicate w.ws.length 0, q.take w.look, 0⟩
theorem start_ok' {w : Wh} {q : List Int} (hw : w.Ok) (hq : QOk w q) : SdOk w (start w q) := by
  refine ⟨by simp [start], by simp [start]; exact Nat.min_eq_left hq.l, fun x hx => ?_, fun x hx => ?_, by simp [start], by have := hw.p1; simp [start]; omega⟩
  · have := List.eq_of_mem_replicate hx
    have h := hw.r1
    omega
  · exact hw.s2 x (hq.b x (List.mem_of_mem_take hx))
theorem lf_eD (x : Row) : lf (eD x) = true := by simp only [eD, lf, lfL, lf_sD, lf_oD, Bool.and_self]
theorem getD_mem {q : List Int} {i : Nat} (h : i < q.length) : q.getD i 0 ∈ q := by
  simp [List.getD, List.getElem?_eq_getElem h]
theorem rep_ok {M : Mem} {m : Bool} {k : Nat} (h : 2 ≤ k) (h2 : k ≤ 10000) {z : Int} : opBin .mul m (tZ [z]) (.int (k : Int)) M = some (tZ (List.replicate k z), M) := by
  show (if _ then _ else _) = _
  rw [if_pos ⟨rfl, by omega, by omega⟩]
  have : ∀ n : Nat, (List.replicate n [D.int z]).flatten = (List.replicate n z).map D.int := fun n => by
    induction n with
    | zero => rfl
    | succ n ih => simp only [List.replicate_succ, List.flatten_cons, ih, List.map_cons]; rfl
  simp only [Int.toNat_natCast, tZ, List.map_cons, List.map_nil, this]
theorem tup0 {ys : List D} : opBi .tuple (.loc 0) [Cn.lst ys] = some (.tup ys, [Cn.lst ys]) := rfl
theorem run_ok {n g : Nat} {M : Mem} {w : Wh} {r : List Ln} {q : List Int} (hW : 50000 < W) (hw : w.Ok) (hr : ROk r) (hq : QOk w q) (hg : mu' w q (start w q) w.look < g) (hg2 : g ≤ 40000) :
    evalFn W defs (n + 5) 8 [wD w, rD r, tZ q] M = some (.tup ((runZ w r q g (start w q) w.look).map eD), M) := by
  have n1 := hw.n1
  have n2 := hw.n2
  have hl := hq.l
  have hqn := hq.n
  refine call_pure (M1 := [.lst ((runZ w r q g (start w q) w.look).map eD)]) (f := f_run) rfl rfl rfl (by simp [lfL]) ?_ (fz_lf (by rw [lf]; exact lfL_map fun x _ => lf_eD x))
  simp only [runB, outR, exs, ex, ev, evs, evo, evi, t_nm, t_tp, t_nil, t_cons, startE, List.map_cons, List.map_nil, List.length_cons, List.length_nil, Nat.reduceAdd, Nat.reduceSub, Nat.sub_self, List.replicate, List.append_nil, List.cons_append, List.nil_append, List.getElem?_cons_zero, List.getElem?_cons_succ, List.set_cons_zero, List.set_cons_succ, Option.bind_some, Option.map_some, Option.bind_none, Option.map_none, asB_bl, if_true, if_false, Bool.false_eq_true, Bool.true_eq_false, o_add, o_sub, c_lt, c_le, c_gt, c_ge, c_is, c_isnt, isNon, c_eqi, c_nei, i_tup, i_lst, i_scr, i_sdc, s_tup, s_lst, b_lenT, b_lenL, b_tupL, b_tupT, b_sum, b_all, b_max, b_int, b_intB, b_abs, sr_tup, sr_lst, at0, at1, at2, at3, at4, at5, partI, wipeE, eq_self, decide_true, decide_false, Bool.and_true, Bool.true_and, Bool.and_false, Bool.false_and, Bool.or_false, Bool.false_or, Bool.or_true, Bool.true_or, if_and, if_or, z_src, z_len, z_tail, z_front, z_at0, z_last, z_one, wkt0, wkl0, wkm0, wkt1, wkl1, wkm1, wkt2, wkl2, wkm2, wkt3, wkl3, wkm3, wkt4, wkl4, wkm4, wkt5, wkl5, wkm5, wkt6, wkl6, wkm6, wkt7, wkl7, wkm7, wkt8, wkl8, wkm8, f_run, c_run, w0, w5, z_to hl, rep_ok (by omega : 2 ≤ w.ws.length) (by omega)]
  generalize hX : whlN _ _ _ _ _ = X
  have key : ∃ u e2 M2, X = some (.rt u, e2, M2) ∧ (u = .tup ((runZ w r q g (start w q) w.look).map eD) ∧ M2 = [.lst ((runZ w r q g (start w q) w.look).map eD)]) := by
    rw [← hX]
    refine whlN_ret (fun f e M => ∃ s seen acc x6 g', e = [some (wD w), some (rD r), some (tZ q), some (.int (seen : Nat)), some (sD s), some (.loc 0), x6] ∧ M = [.lst acc] ∧ SdOk w s ∧ seen ≤ q.length ∧ f = mu' w q s seen ∧ f < g' ∧ acc ++ (runZ w r q g' s seen).map eD = (runZ w r q g (start w q) w.look).map eD ∧ acc.length + g' ≤ 40000)
      (fun u e2 M2 => u = .tup ((runZ w r q g (start w q) w.look).map eD) ∧ M2 = [.lst ((runZ w r q g (start w q) w.look).map eD)]) (fun f e M hP => ?_) W (mu' w q (start w q) w.look) _ _ (by omega) ⟨start w q, w.look, [], none, g, rfl, rfl, start_ok' hw hq, hl, rfl, hg, rfl, by simpa using hg2⟩
    obtain ⟨s, seen, acc, x6, g', rfl, rfl, hs, hsn, rfl, hg', hacc, hlen⟩ := hP
    refine ⟨rfl, ?_⟩
    obtain ⟨g', rfl⟩ : ∃ k, g' = k + 1 := ⟨g' - 1, by omega⟩
    have hlt : acc.length < sizeLine := Nat.lt_of_lt_of_le (show acc.length < 100000 by omega) (line_ge (Nat.le_refl _))
    simp only [runZ, List.map_cons] at hacc
    clear hX
    rcases deed_cases (w := w) (s := s) hr with hd | ⟨hd, hm⟩ | ⟨hd, hm⟩
    · right
      rw [hd] at hacc
      simp only [runB, outR, exs, ex, ev, evs, evo, evi, t_nm, t_tp, t_nil, t_cons, startE, List.map_cons, List.map_nil, List.length_cons, List.length_nil, Nat.reduceAdd, Nat.reduceSub, Nat.sub_self, List.replicate, List.append_nil, List.cons_append, List.nil_append, List.getElem?_cons_zero, List.getElem?_cons_succ, List.set_cons_zero, List.set_cons_succ, Option.bind_some, Option.map_some, Option.bind_none, Option.map_none, asB_bl, if_true, if_false, Bool.false_eq_true, Bool.true_eq_false, o_add, o_sub, c_lt, c_le, c_gt, c_ge, c_is, c_isnt, isNon, c_eqi, c_nei, i_tup, i_lst, i_scr, i_sdc, s_tup, s_lst, b_lenT, b_lenL, b_tupL, b_tupT, b_sum, b_all, b_max, b_int, b_intB, b_abs, sr_tup, sr_lst, at0, at1, at2, at3, at4, at5, partI, wipeE, eq_self, decide_true, decide_false, Bool.and_true, Bool.true_and, Bool.and_false, Bool.false_and, Bool.or_false, Bool.false_or, Bool.or_true, Bool.true_or, if_and, if_or, z_src, z_len, z_tail, z_front, z_at0, z_last, z_one, wkt0, wkl0, wkm0, wkt1, wkl1, wkm1, wkt2, wkl2, wkm2, wkt3, wkl3, wkm3, wkt4, wkl4, wkm4, wkt5, wkl5, wkm5, wkt6, wkl6, wkm6, wkt7, wkl7, wkm7, wkt8, wkl8, wkm8, deed_ok hW hw hs hr, hd, oD, locLst, if_pos hlt, tup0]
      exact ⟨_, _, _, rfl, by rw [← hacc]; rfl, by rw [← hacc]; rfl⟩
    · rw [hd] at hacc
      simp only [if_pos True.intro] at hacc
      by_cases hsl : seen = q.length
      · right
        rw [if_pos hsl] at hacc
        simp only [runB, outR, exs, ex, ev, evs, evo, evi, t_nm, t_tp, t_nil, t_cons, startE, List.map_cons, List.map_nil, List.length_cons, List.length_nil, Nat.reduceAdd, Nat.reduceSub, Nat.sub_self, List.replicate, List.append_nil, List.cons_append, List.nil_append, List.getElem?_cons_zero, List.getElem?_cons_succ, List.set_cons_zero, List.set_cons_succ, Option.bind_some, Option.map_some, Option.bind_none, Option.map_none, asB_bl, if_true, if_false, Bool.false_eq_true, Bool.true_eq_false, o_add, o_sub, c_lt, c_le, c_gt, c_ge, c_is, c_isnt, isNon, c_eqi, c_nei, i_tup, i_lst, i_scr, i_sdc, s_tup, s_lst, b_lenT, b_lenL, b_tupL, b_tupT, b_sum, b_all, b_max, b_int, b_intB, b_abs, sr_tup, sr_lst, at0, at1, at2, at3, at4, at5, partI, wipeE, eq_self, decide_true, decide_false, Bool.and_true, Bool.true_and, Bool.and_false, Bool.false_and, Bool.or_false, Bool.false_or, Bool.or_true, Bool.true_or, if_and, if_or, z_src, z_len, z_tail, z_front, z_at0, z_last, z_one, wkt0, wkl0, wkm0, wkt1, wkl1, wkm1, wkt2, wkl2, wkm2, wkt3, wkl3, wkm3, wkt4, wkl4, wkm4, wkt5, wkl5, wkm5, wkt6, wkl6, wkm6, wkt7, wkl7, wkm7, wkt8, wkl8, wkm8, deed_ok hW hw hs hr, hd, oD, locLst, if_pos hlt, tup0, c_eqs okB okB, bB, z_len, decide_eq_true (congrArg Nat.cast hsl : (seen : Int) = (q.length : Int))]
        exact ⟨_, _, _, rfl, by rw [← hacc]; rfl, by rw [← hacc]; rfl⟩
      · left
        rw [if_neg hsl] at hacc
        have hlt2 : seen < q.length := by omega
        simp only [runB, outR, exs, ex, ev, evs, evo, evi, t_nm, t_tp, t_nil, t_cons, startE, List.map_cons, List.map_nil, List.length_cons, List.length_nil, Nat.reduceAdd, Nat.reduceSub, Nat.sub_self, List.replicate, List.append_nil, List.cons_append, List.nil_append, List.getElem?_cons_zero, List.getElem?_cons_succ, List.set_cons_zero, List.set_cons_succ, Option.bind_some, Option.map_some, Option.bind_none, Option.map_none, asB_bl, if_true, if_false, Bool.false_eq_true, Bool.true_eq_false, o_add, o_sub, c_lt, c_le, c_gt, c_ge, c_is, c_isnt, isNon, c_eqi, c_nei, i_tup, i_lst, i_scr, i_sdc, s_tup, s_lst, b_lenT, b_lenL, b_tupL, b_tupT, b_sum, b_all, b_max, b_int, b_intB, b_abs, sr_tup, sr_lst, at0, at1, at2, at3, at4, at5, partI, wipeE, eq_self, decide_true, decide_false, Bool.and_true, Bool.true_and, Bool.and_false, Bool.false_and, Bool.or_false, Bool.false_or, Bool.or_true, Bool.true_or, if_and, if_or, z_src, z_len, z_tail, z_front, z_at0, z_last, z_one, wkt0, wkl0, wkm0, wkt1, wkl1, wkm1, wkt2, wkl2, wkm2, wkt3, wkl3, wkm3, wkt4, wkl4, wkm4, wkt5, wkl5, wkm5, wkt6, wkl6, wkm6, wkt7, wkl7, wkm7, wkt8, wkl8, wkm8, deed_ok hW hw hs hr, hd, oD, locLst, if_pos hlt, tup0, c_eqs okB okB, bB, z_len, decide_eq_false (fun z => hsl (Int.ofNat.inj z) : ¬ (seen : Int) = (q.length : Int)), z_at hlt2, after_ok hw hs (.inl rfl)]
        refine ⟨_, _, rfl, _, mu_board hw hlt2, afterZ s BOARD (q.getD seen 0), seen + 1, _, _, g', rfl, rfl, after_board hw hs hm (hw.s2 _ (hq.b _ (getD_mem hlt2))), hlt2, rfl, ?_, ?_, ?_⟩
        · have := mu_board (z := q.getD seen 0) hw hlt2 (s := s)
          omega
        · rw [← hacc]
          simp [eD]
          rfl
        · simp; omega
    · rw [hd] at hacc
      simp only [if_neg (of_decide_eq_false tB)] at hacc
      left
      simp only [runB, outR, exs, ex, ev, evs, evo, evi, t_nm, t_tp, t_nil, t_cons, startE, List.map_cons, List.map_nil, List.length_cons, List.length_nil, Nat.reduceAdd, Nat.reduceSub, Nat.sub_self, List.replicate, List.append_nil, List.cons_append, List.nil_append, List.getElem?_cons_zero, List.getElem?_cons_succ, List.set_cons_zero, List.set_cons_succ, Option.bind_some, Option.map_some, Option.bind_none, Option.map_none, asB_bl, if_true, if_false, Bool.false_eq_true, Bool.true_eq_false, o_add, o_sub, c_lt, c_le, c_gt, c_ge, c_is, c_isnt, isNon, c_eqi, c_nei, i_tup, i_lst, i_scr, i_sdc, s_tup, s_lst, b_lenT, b_lenL, b_tupL, b_tupT, b_sum, b_all, b_max, b_int, b_intB, b_abs, sr_tup, sr_lst, at0, at1, at2, at3, at4, at5, partI, wipeE, eq_self, decide_true, decide_false, Bool.and_true, Bool.true_and, Bool.and_false, Bool.false_and, Bool.or_false, Bool.false_or, Bool.or_true, Bool.true_or, if_and, if_or, z_src, z_len, z_tail, z_front, z_at0, z_last, z_one, wkt0, wkl0, wkm0, wkt1, wkl1, wkm1, wkt2, wkl2, wkm2, wkt3, wkl3, wkm3, wkt4, wkl4, wkm4, wkt5, wkl5, wkm5, wkt6, wkl6, wkm6, wkt7, wkl7, wkm7, wkt8, wkl8, wkm8, deed_ok hW hw hs hr, hd, oD, locLst, if_pos hlt, tup0, c_eqs okT okB, tB, after_ok hw hs (.inr rfl), Int.add_zero]
      refine ⟨_, _, rfl, _, mu_turn hw hs hm, afterZ s TURN 0, seen, _, _, g', rfl, rfl, after_turn hw hs hm, hsn, rfl, ?_, ?_, ?_⟩
      · have := mu_turn (q := q) (seen := seen) hw hs hm
        omega
      · rw [← hacc]
        simp [eD]
        rfl
      · simp; omega
  obtain ⟨u, e2, M2, rfl, rfl, rfl⟩ := key
  rfl
end
end K37
set_option Elab.async false
set_option linter.all false
set_option maxRecDepth 100000
set_option maxHeartbeats 1000000
namespace K37
open PySem PySem.Spec PyProof.Rows L2 Wf
section
variable {W : Nat}
theorem behind_B {w : Wh} {s : Sd} (hw : w.Ok) (hs : SdOk w s) (hm : mayZ w s BOARD = true) : behindZ w s BOARD = w.sizes.map (afterZ s BOARD) := by
  have h : fitsZ w (boardedL s.loads s.line) = true := by rw [fit_boarded hw hs, ← mayZ_B]; exact hm
  unfold behindZ
  rw [if_neg (of_decide_eq_false bT), if_pos h]
theorem behind_T {w : Wh} {s : Sd} (hw : w.Ok) (hs : SdOk w s) (hm : mayZ w s TURN = true) : behindZ w s TURN = [afterZ s TURN 0] := by
  have h : (decide (s.k < w.pat) && fitsZ w (turnedL s.loads)) = true := by rw [fit_turned hw hs, ← mayZ_T]; exact hm
  unfold behindZ
  rw [if_pos (of_decide_eq_true tT), if_pos h]
theorem first_of {s : Sd} {v : Int} : ∀ {zs : List Int}, v ∈ zs → ∃ rest, ((zs.map (afterZ s BOARD)).filter fun x => decide (x.line.getLastD 0 = v)) = afterZ s BOARD v :: rest
  | [], h => by simp at h
  | z :: zs, h => by
    have hl : (afterZ s BOARD z).line.getLastD 0 = z := by rw [afterZ_B]; simp
    rw [List.map_cons, List.filter_cons, hl]
    by_cases e : z = v
    · rw [decide_eq_true e, if_pos rfl, e]
      exact ⟨_, rfl⟩
    · rw [decide_eq_false e, if_neg Bool.false_ne_true]
      rcases List.mem_cons.mp h with h | h
      · exact absurd h.symm e
      · exact first_of h
theorem s_i1 {s : Sd} {M : Mem} : opIdx (sD s) (.int 1) M = some (tZ s.line) := at1
theorem law_run_ok {n g : Nat} {M : Mem} {w : Wh} {r : List Ln} {q : List Int} (hW : 50000 < W) (hw : w.Ok) (hr : ROk r) (hq : QOk w q) (hg : mu' w q (start w q) w.look < g) (hg2 : g ≤ 40000) :
    evalFn W defs (n + 5) 19 [wD w, rD r, tZ q] M = some (.lst ((runZ w r q g (start w q) w.look).map eD), M) := by
  have n1 := hw.n1
  have n2 := hw.n2
  have hl := hq.l
  have hqn := hq.n
  have hsz := hw.s1
  refine call_pure (d := .loc 0) (M1 := [.lst ((runZ w r q g (start w q) w.look).map eD)]) (f := f__law_run) rfl rfl rfl (by simp [lfL]) ?_ (fz_loc_lst rfl (lfL_map fun x _ => lf_eD x))
  simp only [runB, outR, exs, ex, ev, evs, evo, evi, t_nm, t_tp, t_nil, t_cons, startE, List.map_cons, List.map_nil, List.length_cons, List.length_nil, Nat.reduceAdd, Nat.reduceSub, Nat.sub_self, List.replicate, List.append_nil, List.cons_append, List.nil_append, List.getElem?_cons_zero, List.getElem?_cons_succ, List.set_cons_zero, List.set_cons_succ, Option.bind_some, Option.map_some, Option.bind_none, Option.map_none, asB_bl, if_true, if_false, Bool.false_eq_true, Bool.true_eq_false, o_add, o_sub, c_lt, c_le, c_gt, c_ge, c_is, c_isnt, isNon, c_eqi, c_nei, i_tup, i_lst, i_scr, i_sdc, s_tup, s_lst, b_lenT, b_lenL, b_tupL, b_tupT, b_sum, b_all, b_max, b_int, b_intB, b_abs, sr_tup, sr_lst, at0, at1, at2, at3, at4, at5, partI, wipeE, eq_self, decide_true, decide_false, Bool.and_true, Bool.true_and, Bool.and_false, Bool.false_and, Bool.or_false, Bool.false_or, Bool.or_true, Bool.true_or, if_and, if_or, z_src, z_len, z_tail, z_front, z_at0, z_last, z_one, wkt0, wkl0, wkm0, wkt1, wkl1, wkm1, wkt2, wkl2, wkm2, wkt3, wkl3, wkm3, wkt4, wkl4, wkm4, wkt5, wkl5, wkm5, wkt6, wkl6, wkm6, wkt7, wkl7, wkm7, wkt8, wkl8, wkm8, f__law_run, c__law_run, w0, w5, z_to hl, rep_ok (by omega : 2 ≤ w.ws.length) (by omega)]
  generalize hX : whlN _ _ _ _ _ = X
  have key : ∃ u e2 M2, X = some (.rt u, e2, M2) ∧ (u = .loc 0 ∧ M2 = [.lst ((runZ w r q g (start w q) w.look).map eD)]) := by
    rw [← hX]
    refine whlN_ret (fun f e M => ∃ s seen acc x6 x7 x8 g', e = [some (wD w), some (rD r), some (tZ q), some (sD s), some (.int (seen : Nat)), some (.loc 0), x6, x7, x8] ∧ M = [.lst acc] ∧ SdOk w s ∧ seen ≤ q.length ∧ f = mu' w q s seen ∧ f < g' ∧ acc ++ (runZ w r q g' s seen).map eD = (runZ w r q g (start w q) w.look).map eD ∧ acc.length + g' ≤ 40000)
      (fun u e2 M2 => u = .loc 0 ∧ M2 = [.lst ((runZ w r q g (start w q) w.look).map eD)]) (fun f e M hP => ?_) W (mu' w q (start w q) w.look) _ _ (by omega) ⟨start w q, w.look, [], none, none, none, g, rfl, rfl, start_ok' hw hq, hl, rfl, hg, rfl, by simpa using hg2⟩
    obtain ⟨s, seen, acc, x6, x7, x8, g', rfl, rfl, hs, hsn, rfl, hg', hacc, hlen⟩ := hP
    refine ⟨rfl, ?_⟩
    obtain ⟨g', rfl⟩ : ∃ k, g' = k + 1 := ⟨g' - 1, by omega⟩
    have hlt : acc.length < sizeLine := Nat.lt_of_lt_of_le (show acc.length < 100000 by omega) (line_ge (Nat.le_refl _))
    simp only [runZ, List.map_cons] at hacc
    clear hX
    rcases deed_cases (w := w) (s := s) hr with hd | ⟨hd, hm⟩ | ⟨hd, hm⟩
    · right
      rw [hd] at hacc
      simp only [runB, outR, exs, ex, ev, evs, evo, evi, t_nm, t_tp, t_nil, t_cons, startE, List.map_cons, List.map_nil, List.length_cons, List.length_nil, Nat.reduceAdd, Nat.reduceSub, Nat.sub_self, List.replicate, List.append_nil, List.cons_append, List.nil_append, List.getElem?_cons_zero, List.getElem?_cons_succ, List.set_cons_zero, List.set_cons_succ, Option.bind_some, Option.map_some, Option.bind_none, Option.map_none, asB_bl, if_true, if_false, Bool.false_eq_true, Bool.true_eq_false, o_add, o_sub, c_lt, c_le, c_gt, c_ge, c_is, c_isnt, isNon, c_eqi, c_nei, i_tup, i_lst, i_scr, i_sdc, s_tup, s_lst, b_lenT, b_lenL, b_tupL, b_tupT, b_sum, b_all, b_max, b_int, b_intB, b_abs, sr_tup, sr_lst, at0, at1, at2, at3, at4, at5, partI, wipeE, eq_self, decide_true, decide_false, Bool.and_true, Bool.true_and, Bool.and_false, Bool.false_and, Bool.or_false, Bool.false_or, Bool.or_true, Bool.true_or, if_and, if_or, z_src, z_len, z_tail, z_front, z_at0, z_last, z_one, wkt0, wkl0, wkm0, wkt1, wkl1, wkm1, wkt2, wkl2, wkm2, wkt3, wkl3, wkm3, wkt4, wkl4, wkm4, wkt5, wkl5, wkm5, wkt6, wkl6, wkm6, wkt7, wkl7, wkm7, wkt8, wkl8, wkm8, deed_of_ok hW hw hs hr, hd, oD, locLst, if_pos hlt]
      exact ⟨_, _, _, rfl, rfl, by rw [← hacc]; rfl⟩
    · rw [hd] at hacc
      simp only [if_pos True.intro] at hacc
      by_cases hsl : seen = q.length
      · right
        rw [if_pos hsl] at hacc
        simp only [runB, outR, exs, ex, ev, evs, evo, evi, t_nm, t_tp, t_nil, t_cons, startE, List.map_cons, List.map_nil, List.length_cons, List.length_nil, Nat.reduceAdd, Nat.reduceSub, Nat.sub_self, List.replicate, List.append_nil, List.cons_append, List.nil_append, List.getElem?_cons_zero, List.getElem?_cons_succ, List.set_cons_zero, List.set_cons_succ, Option.bind_some, Option.map_some, Option.bind_none, Option.map_none, asB_bl, if_true, if_false, Bool.false_eq_true, Bool.true_eq_false, o_add, o_sub, c_lt, c_le, c_gt, c_ge, c_is, c_isnt, isNon, c_eqi, c_nei, i_tup, i_lst, i_scr, i_sdc, s_tup, s_lst, b_lenT, b_lenL, b_tupL, b_tupT, b_sum, b_all, b_max, b_int, b_intB, b_abs, sr_tup, sr_lst, at0, at1, at2, at3, at4, at5, partI, wipeE, eq_self, decide_true, decide_false, Bool.and_true, Bool.true_and, Bool.and_false, Bool.false_and, Bool.or_false, Bool.false_or, Bool.or_true, Bool.true_or, if_and, if_or, z_src, z_len, z_tail, z_front, z_at0, z_last, z_one, wkt0, wkl0, wkm0, wkt1, wkl1, wkm1, wkt2, wkl2, wkm2, wkt3, wkl3, wkm3, wkt4, wkl4, wkm4, wkt5, wkl5, wkm5, wkt6, wkl6, wkm6, wkt7, wkl7, wkm7, wkt8, wkl8, wkm8, deed_of_ok hW hw hs hr, hd, oD, locLst, if_pos hlt, c_eqs okB okB, bB, z_len, decide_eq_true (congrArg Nat.cast hsl : (seen : Int) = (q.length : Int))]
        exact ⟨_, _, _, rfl, rfl, by rw [← hacc]; rfl⟩
      · left
        rw [if_neg hsl] at hacc
        have hlt2 : seen < q.length := by omega
        have hv := hq.b _ (getD_mem hlt2)
        simp only [runB, outR, exs, ex, ev, evs, evo, evi, t_nm, t_tp, t_nil, t_cons, startE, List.map_cons, List.map_nil, List.length_cons, List.length_nil, Nat.reduceAdd, Nat.reduceSub, Nat.sub_self, List.replicate, List.append_nil, List.cons_append, List.nil_append, List.getElem?_cons_zero, List.getElem?_cons_succ, List.set_cons_zero, List.set_cons_succ, Option.bind_some, Option.map_some, Option.bind_none, Option.map_none, asB_bl, if_true, if_false, Bool.false_eq_true, Bool.true_eq_false, o_add, o_sub, c_lt, c_le, c_gt, c_ge, c_is, c_isnt, isNon, c_eqi, c_nei, i_tup, i_lst, i_scr, i_sdc, s_tup, s_lst, b_lenT, b_lenL, b_tupL, b_tupT, b_sum, b_all, b_max, b_int, b_intB, b_abs, sr_tup, sr_lst, at0, at1, at2, at3, at4, at5, partI, wipeE, eq_self, decide_true, decide_false, Bool.and_true, Bool.true_and, Bool.and_false, Bool.false_and, Bool.or_false, Bool.false_or, Bool.or_true, Bool.true_or, if_and, if_or, z_src, z_len, z_tail, z_front, z_at0, z_last, z_one, wkt0, wkl0, wkm0, wkt1, wkl1, wkm1, wkt2, wkl2, wkm2, wkt3, wkl3, wkm3, wkt4, wkl4, wkm4, wkt5, wkl5, wkm5, wkt6, wkl6, wkm6, wkt7, wkl7, wkm7, wkt8, wkl8, wkm8, deed_of_ok hW hw hs hr, hd, oD, locLst, if_pos hlt, c_eqs okB okB, bB, c_eqs okB okT, bT, z_len, decide_eq_false (fun z => hsl (Int.ofNat.inj z) : ¬ (seen : Int) = (q.length : Int)), behind_ok hW hw hs (.inl rfl), behind_B hw hs hm]
        rw [lcN_fm (F := sD) (fun x => decide (x.line.getLastD 0 = q.getD seen 0)) sD]
        · obtain ⟨rest, hrest⟩ := first_of (s := s) hv
          have hll := List.length_filter_le (fun x : Sd => decide (x.line.getLastD 0 = q.getD seen 0)) (w.sizes.map (afterZ s BOARD))
          rw [List.length_map] at hll
          rw [hrest] at hll ⊢
          simp only [runB, outR, exs, ex, ev, evs, evo, evi, t_nm, t_tp, t_nil, t_cons, startE, List.map_cons, List.map_nil, List.length_cons, List.length_nil, Nat.reduceAdd, Nat.reduceSub, Nat.sub_self, List.replicate, List.append_nil, List.cons_append, List.nil_append, List.getElem?_cons_zero, List.getElem?_cons_succ, List.set_cons_zero, List.set_cons_succ, Option.bind_some, Option.map_some, Option.bind_none, Option.map_none, asB_bl, if_true, if_false, Bool.false_eq_true, Bool.true_eq_false, o_add, o_sub, c_lt, c_le, c_gt, c_ge, c_is, c_isnt, isNon, c_eqi, c_nei, i_tup, i_lst, i_scr, i_sdc, s_tup, s_lst, b_lenT, b_lenL, b_tupL, b_tupT, b_sum, b_all, b_max, b_int, b_intB, b_abs, sr_tup, sr_lst, at0, at1, at2, at3, at4, at5, partI, wipeE, eq_self, decide_true, decide_false, Bool.and_true, Bool.true_and, Bool.and_false, Bool.false_and, Bool.or_false, Bool.false_or, Bool.or_true, Bool.true_or, if_and, if_or, z_src, z_len, z_tail, z_front, z_at0, z_last, z_one, wkt0, wkl0, wkm0, wkt1, wkl1, wkm1, wkt2, wkl2, wkm2, wkt3, wkl3, wkm3, wkt4, wkl4, wkm4, wkt5, wkl5, wkm5, wkt6, wkl6, wkm6, wkt7, wkl7, wkm7, wkt8, wkl8, wkm8, k_l (line_ge (show (sD (afterZ s BOARD (q.getD seen 0)) :: rest.map sD).length ≤ 100000 by simp at hll; simp; omega))]
          refine ⟨_, _, rfl, _, mu_board hw hlt2, afterZ s BOARD (q.getD seen 0), seen + 1, _, _, _, _, g', rfl, rfl, after_board hw hs hm (hw.s2 _ hv), hlt2, rfl, ?_, ?_, ?_⟩
          · have := mu_board (z := q.getD seen 0) hw hlt2 (s := s)
            omega
          · rw [← hacc]
            simp [eD]
            rfl
          · simp; omega
        · intro x hx
          obtain ⟨z, hz, rfl⟩ := List.mem_map.mp hx
          refine ⟨_, rfl, ?_⟩
          simp only [runB, outR, exs, ex, ev, evs, evo, evi, t_nm, t_tp, t_nil, t_cons, startE, List.map_cons, List.map_nil, List.length_cons, List.length_nil, Nat.reduceAdd, Nat.reduceSub, Nat.sub_self, List.replicate, List.append_nil, List.cons_append, List.nil_append, List.getElem?_cons_zero, List.getElem?_cons_succ, List.set_cons_zero, List.set_cons_succ, Option.bind_some, Option.map_some, Option.bind_none, Option.map_none, asB_bl, if_true, if_false, Bool.false_eq_true, Bool.true_eq_false, o_add, o_sub, c_lt, c_le, c_gt, c_ge, c_is, c_isnt, isNon, c_eqi, c_nei, i_tup, i_lst, i_scr, i_sdc, s_tup, s_lst, b_lenT, b_lenL, b_tupL, b_tupT, b_sum, b_all, b_max, b_int, b_intB, b_abs, sr_tup, sr_lst, at0, at1, at2, at3, at4, at5, partI, wipeE, eq_self, decide_true, decide_false, Bool.and_true, Bool.true_and, Bool.and_false, Bool.false_and, Bool.or_false, Bool.false_or, Bool.or_true, Bool.true_or, if_and, if_or, z_src, z_len, z_tail, z_front, z_at0, z_last, z_one, wkt0, wkl0, wkm0, wkt1, wkl1, wkm1, wkt2, wkl2, wkm2, wkt3, wkl3, wkm3, wkt4, wkl4, wkm4, wkt5, wkl5, wkm5, wkt6, wkl6, wkm6, wkt7, wkl7, wkm7, wkt8, wkl8, wkm8, s_i1, afterZ_B, z_at hlt2]
          simp
        · rw [List.length_map]; exact line_ge (by omega)
        · rw [List.length_map]; omega
    · rw [hd] at hacc
      simp only [if_neg (of_decide_eq_false tB)] at hacc
      left
      simp only [runB, outR, exs, ex, ev, evs, evo, evi, t_nm, t_tp, t_nil, t_cons, startE, List.map_cons, List.map_nil, List.length_cons, List.length_nil, Nat.reduceAdd, Nat.reduceSub, Nat.sub_self, List.replicate, List.append_nil, List.cons_append, List.nil_append, List.getElem?_cons_zero, List.getElem?_cons_succ, List.set_cons_zero, List.set_cons_succ, Option.bind_some, Option.map_some, Option.bind_none, Option.map_none, asB_bl, if_true, if_false, Bool.false_eq_true, Bool.true_eq_false, o_add, o_sub, c_lt, c_le, c_gt, c_ge, c_is, c_isnt, isNon, c_eqi, c_nei, i_tup, i_lst, i_scr, i_sdc, s_tup, s_lst, b_lenT, b_lenL, b_tupL, b_tupT, b_sum, b_all, b_max, b_int, b_intB, b_abs, sr_tup, sr_lst, at0, at1, at2, at3, at4, at5, partI, wipeE, eq_self, decide_true, decide_false, Bool.and_true, Bool.true_and, Bool.and_false, Bool.false_and, Bool.or_false, Bool.false_or, Bool.or_true, Bool.true_or, if_and, if_or, z_src, z_len, z_tail, z_front, z_at0, z_last, z_one, wkt0, wkl0, wkm0, wkt1, wkl1, wkm1, wkt2, wkl2, wkm2, wkt3, wkl3, wkm3, wkt4, wkl4, wkm4, wkt5, wkl5, wkm5, wkt6, wkl6, wkm6, wkt7, wkl7, wkm7, wkt8, wkl8, wkm8, deed_of_ok hW hw hs hr, hd, oD, locLst, if_pos hlt, c_eqs okT okB, tB, c_eqs okT okT, behind_ok hW hw hs (.inr rfl), behind_T hw hs hm, List.map_cons, List.map_nil]
      refine ⟨_, _, rfl, _, mu_turn hw hs hm, afterZ s TURN 0, seen, _, _, _, _, g', rfl, rfl, after_turn hw hs hm, hsn, rfl, ?_, ?_, ?_⟩
      · have := mu_turn (q := q) (seen := seen) hw hs hm
        omega
      · rw [← hacc]
        simp [eD]
        rfl
      · simp; omega
  obtain ⟨u, e2, M2, rfl, rfl, rfl⟩ := key
  rfl
end
end K37
set_option Elab.async false
set_option linter.all false
set_option maxRecDepth 100000
set_option maxHeartbeats 1000000
namespace K37
open PySem PySem.Spec PyProof.Rows L2 Wf
section
variable {W : Nat}
theorem draw_ok {n c : Nat} {k : Dk} {m : Int} {tl : Mem} (hk : k.Ok c) (hc : c < 1000000) (hm : 0 < m ∧ m < 1073741824) :
    ∃ v k', evalFn W defs (n + 1) 10 [.loc 0, .int m] (dC k :: tl) = some (.int v, dC k' :: tl) ∧ 0 ≤ v ∧ v < m ∧ k'.Ok (c + 1) := by
  rw [call_own (f := f__law_draw) rfl rfl rfl]
  exact draw_code rfl rfl hk hc hm
theorem one_ok {n c : Nat} {k : Dk} {xs : List D} {tl : Mem} (hk : k.Ok c) (hc : c < 1000000) (hx : xs ≠ []) (hl : xs.length ≤ 1000) :
    ∃ x k', x ∈ xs ∧ evalFn W defs (n + 2) 11 [.loc 0, .lst xs] (dC k :: tl) = some (x, dC k' :: tl) ∧ k'.Ok (c + 1) := by
  have hp : 0 < xs.length := List.length_pos_iff.mpr hx
  obtain ⟨v, k', h1, h2, h3, h4⟩ := draw_ok (W := W) (n := n) (tl := tl) hk hc (m := (xs.length : Int)) (by omega)
  obtain ⟨j, rfl⟩ := Int.eq_ofNat_of_zero_le h2
  have hj : j < xs.length := by omega
  refine ⟨xs[j], k', List.getElem_mem hj, ?_, h4⟩
  rw [call_own (f := f__law_one) rfl rfl rfl]
  have hi : atI xs (j : Int) = some xs[j] := by rw [atI_ofNat hj, List.getElem?_eq_getElem hj]
  simp only [runB, outR, exs, ex, ev, evs, evo, evi, t_nm, t_tp, t_nil, t_cons, startE, List.map_cons, List.map_nil, List.length_cons, List.length_nil, Nat.reduceAdd, Nat.reduceSub, Nat.sub_self, List.replicate, List.append_nil, List.cons_append, List.nil_append, List.getElem?_cons_zero, List.getElem?_cons_succ, List.set_cons_zero, List.set_cons_succ, Option.bind_some, Option.map_some, Option.bind_none, Option.map_none, asB_bl, if_true, if_false, Bool.false_eq_true, Bool.true_eq_false, o_add, o_sub, c_lt, c_le, c_gt, c_ge, c_is, c_isnt, isNon, c_eqi, c_nei, i_tup, i_lst, i_scr, i_sdc, s_tup, s_lst, b_lenT, b_lenL, b_tupL, b_tupT, b_sum, b_all, b_max, b_int, b_intB, b_abs, sr_tup, sr_lst, at0, at1, at2, at3, at4, at5, partI, wipeE, eq_self, decide_true, decide_false, Bool.and_true, Bool.true_and, Bool.and_false, Bool.false_and, Bool.or_false, Bool.false_or, Bool.or_true, Bool.true_or, if_and, if_or, z_src, z_len, z_tail, z_front, z_at0, z_last, z_one, wkt0, wkl0, wkm0, wkt1, wkl1, wkm1, wkt2, wkl2, wkm2, wkt3, wkl3, wkm3, wkt4, wkl4, wkm4, wkt5, wkl5, wkm5, wkt6, wkl6, wkm6, wkt7, wkl7, wkm7, wkt8, wkl8, wkm8, f__law_one, c__law_one, h1, hi]
theorem one_okT {n c : Nat} {k : Dk} {zs : List Int} {tl : Mem} (hk : k.Ok c) (hc : c < 1000000) (hx : zs ≠ []) (hl : zs.length ≤ 1000) :
    ∃ z k', z ∈ zs ∧ evalFn W defs (n + 2) 11 [.loc 0, tZ zs] (dC k :: tl) = some (.int z, dC k' :: tl) ∧ k'.Ok (c + 1) := by
  have hp : 0 < zs.length := List.length_pos_iff.mpr hx
  obtain ⟨v, k', h1, h2, h3, h4⟩ := draw_ok (W := W) (n := n) (tl := tl) hk hc (m := (zs.length : Int)) (by omega)
  obtain ⟨j, rfl⟩ := Int.eq_ofNat_of_zero_le h2
  have hj : j < zs.length := by omega
  refine ⟨zs[j], k', List.getElem_mem hj, ?_, h4⟩
  rw [call_own (f := f__law_one) rfl rfl rfl]
  simp only [runB, outR, exs, ex, ev, evs, evo, evi, t_nm, t_tp, t_nil, t_cons, startE, List.map_cons, List.map_nil, List.length_cons, List.length_nil, Nat.reduceAdd, Nat.reduceSub, Nat.sub_self, List.replicate, List.append_nil, List.cons_append, List.nil_append, List.getElem?_cons_zero, List.getElem?_cons_succ, List.set_cons_zero, List.set_cons_succ, Option.bind_some, Option.map_some, Option.bind_none, Option.map_none, asB_bl, if_true, if_false, Bool.false_eq_true, Bool.true_eq_false, o_add, o_sub, c_lt, c_le, c_gt, c_ge, c_is, c_isnt, isNon, c_eqi, c_nei, i_tup, i_lst, i_scr, i_sdc, s_tup, s_lst, b_lenT, b_lenL, b_tupL, b_tupT, b_sum, b_all, b_max, b_int, b_intB, b_abs, sr_tup, sr_lst, at0, at1, at2, at3, at4, at5, partI, wipeE, eq_self, decide_true, decide_false, Bool.and_true, Bool.true_and, Bool.and_false, Bool.false_and, Bool.or_false, Bool.false_or, Bool.or_true, Bool.true_or, if_and, if_or, z_src, z_len, z_tail, z_front, z_at0, z_last, z_one, wkt0, wkl0, wkm0, wkt1, wkl1, wkm1, wkt2, wkl2, wkm2, wkt3, wkl3, wkm3, wkt4, wkl4, wkm4, wkt5, wkl5, wkm5, wkt6, wkl6, wkm6, wkt7, wkl7, wkm7, wkt8, wkl8, wkm8, f__law_one, c__law_one, h1, z_at hj, List.getD, List.getElem?_eq_getElem hj, Option.getD_some]
theorem count_ok {n : Nat} {M : Mem} {ws sizes : List Int} {room pat look : Int} (hW : 50000 < W) (h1 : ws.length ≤ 6) (h2 : 1 ≤ room ∧ room ≤ 4) (h3 : sizes.length ≤ 4) (h4 : 1 ≤ look ∧ look ≤ 6) :
    ∃ N, evalFn W defs (n + 1) 12 [.lst (ws.map .int), .int room, tZ sizes, .int pat, .int look] M = some (.int N, M) := by
  have key : ∃ N, runB W (evalFn W defs n) f__law_count [.lst (ws.map .int), .int room, tZ sizes, .int pat, .int look] [] = some (.int N, []) := by
    rw [runB]
    simp only [f__law_count, c__law_count, startE, List.map_cons, List.map_nil, List.length_cons, List.length_nil, Nat.reduceAdd, Nat.reduceSub, List.replicate, List.cons_append, List.nil_append]
    rw [exs_nx (e' := [some (.lst (ws.map .int)), some (.int room), some (tZ sizes), some (.int pat), some (.int look), some (.int (pat + 1)), none, none]) (M' := []) (by simp only [runB, outR, exs, ex, ev, evs, evo, evi, t_nm, t_tp, t_nil, t_cons, startE, List.map_cons, List.map_nil, List.length_cons, List.length_nil, Nat.reduceAdd, Nat.reduceSub, Nat.sub_self, List.replicate, List.append_nil, List.cons_append, List.nil_append, List.getElem?_cons_zero, List.getElem?_cons_succ, List.set_cons_zero, List.set_cons_succ, Option.bind_some, Option.map_some, Option.bind_none, Option.map_none, asB_bl, if_true, if_false, Bool.false_eq_true, Bool.true_eq_false, o_add, o_sub, c_lt, c_le, c_gt, c_ge, c_is, c_isnt, isNon, c_eqi, c_nei, i_tup, i_lst, i_scr, i_sdc, s_tup, s_lst, b_lenT, b_lenL, b_tupL, b_tupT, b_sum, b_all, b_max, b_int, b_intB, b_abs, sr_tup, sr_lst, at0, at1, at2, at3, at4, at5, partI, wipeE, eq_self, decide_true, decide_false, Bool.and_true, Bool.true_and, Bool.and_false, Bool.false_and, Bool.or_false, Bool.false_or, Bool.or_true, Bool.true_or, if_and, if_or, z_src, z_len, z_tail, z_front, z_at0, z_last, z_one, wkt0, wkl0, wkm0, wkt1, wkl1, wkm1, wkt2, wkl2, wkm2, wkt3, wkl3, wkm3, wkt4, wkl4, wkm4, wkt5, wkl5, wkm5, wkt6, wkl6, wkm6, wkt7, wkl7, wkm7, wkt8, wkl8, wkm8])]
    have l1 : ∃ N x, ex W (evalFn W defs n) (.fr (.nm 6) (.seq (.var 0)) [(.asg (.nm 5) (.bin .mul false (.var 5) (.bin .add false (.var 1) (.lit (.int (1))))))]) [some (.lst (ws.map .int)), some (.int room), some (tZ sizes), some (.int pat), some (.int look), some (.int (pat + 1)), none, none] [] =
        some (.nx, [some (.lst (ws.map .int)), some (.int room), some (tZ sizes), some (.int pat), some (.int look), some (.int N), x, none], []) := by
      simp only [runB, outR, exs, ex, ev, evs, evo, evi, t_nm, t_tp, t_nil, t_cons, startE, List.map_cons, List.map_nil, List.length_cons, List.length_nil, Nat.reduceAdd, Nat.reduceSub, Nat.sub_self, List.replicate, List.append_nil, List.cons_append, List.nil_append, List.getElem?_cons_zero, List.getElem?_cons_succ, List.set_cons_zero, List.set_cons_succ, Option.bind_some, Option.map_some, Option.bind_none, Option.map_none, asB_bl, if_true, if_false, Bool.false_eq_true, Bool.true_eq_false, o_add, o_sub, c_lt, c_le, c_gt, c_ge, c_is, c_isnt, isNon, c_eqi, c_nei, i_tup, i_lst, i_scr, i_sdc, s_tup, s_lst, b_lenT, b_lenL, b_tupL, b_tupT, b_sum, b_all, b_max, b_int, b_intB, b_abs, sr_tup, sr_lst, at0, at1, at2, at3, at4, at5, partI, wipeE, eq_self, decide_true, decide_false, Bool.and_true, Bool.true_and, Bool.and_false, Bool.false_and, Bool.or_false, Bool.false_or, Bool.or_true, Bool.true_or, if_and, if_or, z_src, z_len, z_tail, z_front, z_at0, z_last, z_one, wkt0, wkl0, wkm0, wkt1, wkl1, wkm1, wkt2, wkl2, wkm2, wkt3, wkl3, wkm3, wkt4, wkl4, wkm4, wkt5, wkl5, wkm5, wkt6, wkl6, wkm6, wkt7, wkl7, wkm7, wkt8, wkl8, wkm8]
      generalize hX : forN _ _ _ _ _ _ _ = X
      have : ∃ e2 M2, X = some (.nx, e2, M2) ∧ ∃ N x, M2 = [] ∧ e2 = [some (.lst (ws.map .int)), some (.int room), some (tZ sizes), some (.int pat), some (.int look), some (.int N), x, none] := by
        rw [← hX]
        refine forN_nx (fun _ e M => ∃ N x, M = [] ∧ e = [some (.lst (ws.map .int)), some (.int room), some (tZ sizes), some (.int pat), some (.int look), some (.int N), x, none]) ⟨_, _, rfl, rfl⟩ (fun i e M d hd he => ?_) (show (ws.map D.int).length < W by simp; omega)
        obtain ⟨N, x, rfl, rfl⟩ := he
        refine ⟨_, rfl, _, _, ?_, ⟨N * (room + 1), some d, rfl, rfl⟩⟩
        simp only [runB, outR, exs, ex, ev, evs, evo, evi, t_nm, t_tp, t_nil, t_cons, startE, List.map_cons, List.map_nil, List.length_cons, List.length_nil, Nat.reduceAdd, Nat.reduceSub, Nat.sub_self, List.replicate, List.append_nil, List.cons_append, List.nil_append, List.getElem?_cons_zero, List.getElem?_cons_succ, List.set_cons_zero, List.set_cons_succ, Option.bind_some, Option.map_some, Option.bind_none, Option.map_none, asB_bl, if_true, if_false, Bool.false_eq_true, Bool.true_eq_false, o_add, o_sub, c_lt, c_le, c_gt, c_ge, c_is, c_isnt, isNon, c_eqi, c_nei, i_tup, i_lst, i_scr, i_sdc, s_tup, s_lst, b_lenT, b_lenL, b_tupL, b_tupT, b_sum, b_all, b_max, b_int, b_intB, b_abs, sr_tup, sr_lst, at0, at1, at2, at3, at4, at5, partI, wipeE, eq_self, decide_true, decide_false, Bool.and_true, Bool.true_and, Bool.and_false, Bool.false_and, Bool.or_false, Bool.false_or, Bool.or_true, Bool.true_or, if_and, if_or, z_src, z_len, z_tail, z_front, z_at0, z_last, z_one, wkt0, wkl0, wkm0, wkt1, wkl1, wkm1, wkt2, wkl2, wkm2, wkt3, wkl3, wkm3, wkt4, wkl4, wkm4, wkt5, wkl5, wkm5, wkt6, wkl6, wkm6, wkt7, wkl7, wkm7, wkt8, wkl8, wkm8, o_mulg (.inr (by omega) : (-(2 ^ 64) < N ∧ N < 2 ^ 64) ∨ (-(2 ^ 64) < room + 1 ∧ room + 1 < 2 ^ 64))]
      obtain ⟨e2, M2, rfl, N, x, rfl, rfl⟩ := this
      exact ⟨N, x, rfl⟩
    obtain ⟨N, x, h⟩ := l1
    rw [exs_nx h]
    have l2 : ∃ N' y, ex W (evalFn W defs n) (.fr (.nm 7) (.rng1 (.var 4)) [(.asg (.nm 5) (.bin .mul false (.var 5) (.bi .len (.var 2))))]) [some (.lst (ws.map .int)), some (.int room), some (tZ sizes), some (.int pat), some (.int look), some (.int N), x, none] [] =
        some (.nx, [some (.lst (ws.map .int)), some (.int room), some (tZ sizes), some (.int pat), some (.int look), some (.int N'), x, y], []) := by
      have hs : smallI look = true := by unfold smallI; rw [decide_eq_true_eq]; omega
      simp only [runB, outR, exs, ex, ev, evs, evo, evi, t_nm, t_tp, t_nil, t_cons, startE, List.map_cons, List.map_nil, List.length_cons, List.length_nil, Nat.reduceAdd, Nat.reduceSub, Nat.sub_self, List.replicate, List.append_nil, List.cons_append, List.nil_append, List.getElem?_cons_zero, List.getElem?_cons_succ, List.set_cons_zero, List.set_cons_succ, Option.bind_some, Option.map_some, Option.bind_none, Option.map_none, asB_bl, if_true, if_false, Bool.false_eq_true, Bool.true_eq_false, o_add, o_sub, c_lt, c_le, c_gt, c_ge, c_is, c_isnt, isNon, c_eqi, c_nei, i_tup, i_lst, i_scr, i_sdc, s_tup, s_lst, b_lenT, b_lenL, b_tupL, b_tupT, b_sum, b_all, b_max, b_int, b_intB, b_abs, sr_tup, sr_lst, at0, at1, at2, at3, at4, at5, partI, wipeE, eq_self, decide_true, decide_false, Bool.and_true, Bool.true_and, Bool.and_false, Bool.false_and, Bool.or_false, Bool.false_or, Bool.or_true, Bool.true_or, if_and, if_or, z_src, z_len, z_tail, z_front, z_at0, z_last, z_one, wkt0, wkl0, wkm0, wkt1, wkl1, wkm1, wkt2, wkl2, wkm2, wkt3, wkl3, wkm3, wkt4, wkl4, wkm4, wkt5, wkl5, wkm5, wkt6, wkl6, wkm6, wkt7, wkl7, wkm7, wkt8, wkl8, wkm8, hs]
      generalize hX : forN _ _ _ _ _ _ _ = X
      have : ∃ e2 M2, X = some (.nx, e2, M2) ∧ ∃ N' y, M2 = [] ∧ e2 = [some (.lst (ws.map .int)), some (.int room), some (tZ sizes), some (.int pat), some (.int look), some (.int N'), x, y] := by
        rw [← hX]
        refine forN_nx (fun _ e M => ∃ N' y, M = [] ∧ e = [some (.lst (ws.map .int)), some (.int room), some (tZ sizes), some (.int pat), some (.int look), some (.int N'), x, y]) ⟨_, _, rfl, rfl⟩ (fun i e M d hd he => ?_) (show (rngI 0 look).length < W by simp [rngI]; omega)
        obtain ⟨N', y, rfl, rfl⟩ := he
        refine ⟨_, rfl, _, _, ?_, ⟨N' * (sizes.length : Int), some d, rfl, rfl⟩⟩
        simp only [runB, outR, exs, ex, ev, evs, evo, evi, t_nm, t_tp, t_nil, t_cons, startE, List.map_cons, List.map_nil, List.length_cons, List.length_nil, Nat.reduceAdd, Nat.reduceSub, Nat.sub_self, List.replicate, List.append_nil, List.cons_append, List.nil_append, List.getElem?_cons_zero, List.getElem?_cons_succ, List.set_cons_zero, List.set_cons_succ, Option.bind_some, Option.map_some, Option.bind_none, Option.map_none, asB_bl, if_true, if_false, Bool.false_eq_true, Bool.true_eq_false, o_add, o_sub, c_lt, c_le, c_gt, c_ge, c_is, c_isnt, isNon, c_eqi, c_nei, i_tup, i_lst, i_scr, i_sdc, s_tup, s_lst, b_lenT, b_lenL, b_tupL, b_tupT, b_sum, b_all, b_max, b_int, b_intB, b_abs, sr_tup, sr_lst, at0, at1, at2, at3, at4, at5, partI, wipeE, eq_self, decide_true, decide_false, Bool.and_true, Bool.true_and, Bool.and_false, Bool.false_and, Bool.or_false, Bool.false_or, Bool.or_true, Bool.true_or, if_and, if_or, z_src, z_len, z_tail, z_front, z_at0, z_last, z_one, wkt0, wkl0, wkm0, wkt1, wkl1, wkm1, wkt2, wkl2, wkm2, wkt3, wkl3, wkm3, wkt4, wkl4, wkm4, wkt5, wkl5, wkm5, wkt6, wkl6, wkm6, wkt7, wkl7, wkm7, wkt8, wkl8, wkm8, o_mulg (.inr (by omega) : (-(2 ^ 64) < N' ∧ N' < 2 ^ 64) ∨ (-(2 ^ 64) < (sizes.length : Int) ∧ (sizes.length : Int) < 2 ^ 64))]
      obtain ⟨e2, M2, rfl, N', y, rfl, rfl⟩ := this
      exact ⟨N', y, rfl⟩
    obtain ⟨N', y, h⟩ := l2
    rw [exs_nx h]
    refine ⟨N', ?_⟩
    simp only [runB, outR, exs, ex, ev, evs, evo, evi, t_nm, t_tp, t_nil, t_cons, startE, List.map_cons, List.map_nil, List.length_cons, List.length_nil, Nat.reduceAdd, Nat.reduceSub, Nat.sub_self, List.replicate, List.append_nil, List.cons_append, List.nil_append, List.getElem?_cons_zero, List.getElem?_cons_succ, List.set_cons_zero, List.set_cons_succ, Option.bind_some, Option.map_some, Option.bind_none, Option.map_none, asB_bl, if_true, if_false, Bool.false_eq_true, Bool.true_eq_false, o_add, o_sub, c_lt, c_le, c_gt, c_ge, c_is, c_isnt, isNon, c_eqi, c_nei, i_tup, i_lst, i_scr, i_sdc, s_tup, s_lst, b_lenT, b_lenL, b_tupL, b_tupT, b_sum, b_all, b_max, b_int, b_intB, b_abs, sr_tup, sr_lst, at0, at1, at2, at3, at4, at5, partI, wipeE, eq_self, decide_true, decide_false, Bool.and_true, Bool.true_and, Bool.and_false, Bool.false_and, Bool.or_false, Bool.false_or, Bool.or_true, Bool.true_or, if_and, if_or, z_src, z_len, z_tail, z_front, z_at0, z_last, z_one, wkt0, wkl0, wkm0, wkt1, wkl1, wkm1, wkt2, wkl2, wkm2, wkt3, wkl3, wkm3, wkt4, wkl4, wkm4, wkt5, wkl5, wkm5, wkt6, wkl6, wkm6, wkt7, wkl7, wkm7, wkt8, wkl8, wkm8]
  obtain ⟨N, hN⟩ := key
  exact ⟨N, call_pure (f := f__law_count) rfl rfl rfl (by simp [lfL, lf, lfL_ints]) hN (fz_lf rfl)⟩
end
end K37
set_option Elab.async false
set_option linter.all false
set_option maxRecDepth 100000
set_option maxHeartbeats 1000000
namespace K37
open PySem PySem.Spec PyProof.Rows L2 Wf
section
variable {W : Nat}
theorem sm_ok {i : Int} (h : -100000 ≤ i ∧ i ≤ 100000) : smallI i = true := by unfold smallI; rw [decide_eq_true_eq]; omega
/-- one of some numbers -/
theorem one_z {n c : Nat} {k : Dk} {zs : List Int} {tl : Mem} (hk : k.Ok c) (hc : c < 1000000) (hx : zs ≠ []) (hl : zs.length ≤ 1000) :
    ∃ z k', z ∈ zs ∧ evalFn W defs (n + 2) 11 [.loc 0, .lst (zs.map .int)] (dC k :: tl) = some (.int z, dC k' :: tl) ∧ k'.Ok (c + 1) := by
  obtain ⟨x, k', h1, h2, h3⟩ := one_ok (W := W) (n := n) (tl := tl) hk hc (xs := zs.map .int) (by simpa using hx) (by simpa using hl)
  obtain ⟨z, hz, rfl⟩ := List.mem_map.mp h1
  exact ⟨z, k', hz, h2, h3⟩
theorem rngI_at {lo hi : Int} {i : Nat} {d : D} (h : (rngI lo hi)[i]? = some d) : d = .int (lo + (i : Int)) ∧ lo + (i : Int) < hi := by
  unfold rngI at h
  rw [List.getElem?_map] at h
  cases hr : (List.range (hi - lo).toNat)[i]? with
  | none => rw [hr] at h; cases h
  | some j =>
    rw [hr] at h
    have h1 := List.getElem?_eq_some_iff.mp hr
    obtain ⟨h2, h3⟩ := h1
    simp at h2 h3
    subst h3
    cases h
    exact ⟨rfl, by omega⟩
theorem rngI_len {lo hi : Int} : (rngI lo hi).length = (hi - lo).toNat := by simp [rngI]
theorem sizes_ok {n c : Nat} {k : Dk} {tl : Mem} {room most : Int} {y : Envi} (hW : 50000 < W) (hk : k.Ok c) (hc : c < 100000) (hr : 1 ≤ room ∧ room ≤ 4) :
    ∃ (zs : List Int) (k' : Dk), ex W (evalFn W defs (n + 2)) (.asg (.nm 3) (.bi .tuple (.lc false [4] (.nm 4) (.rng2 (.lit (.int (1))) (.bin .add false (.var 2) (.lit (.int (1))))) (some (.cmp .gt (.call 10 [(.var 0), (.lit (.int (3)))]) (.lit (.int (0))))) (.var 4))))
      [some (.loc 0), some (.int most), some (.int room), none, none, none, none, none, none, none, none, none] (dC k :: tl) =
      some (.nx, [some (.loc 0), some (.int most), some (.int room), some (tZ zs), none, none, none, none, none, none, none, none], dC k' :: tl) ∧ zs.length ≤ 4 ∧ (∀ z ∈ zs, 1 ≤ z ∧ z ≤ 4) ∧ k'.Ok (c + 4) := by
  simp only [runB, outR, exs, ex, ev, evs, evo, evi, t_nm, t_tp, t_nil, t_cons, startE, List.map_cons, List.map_nil, List.length_cons, List.length_nil, Nat.reduceAdd, Nat.reduceSub, Nat.sub_self, List.replicate, List.append_nil, List.cons_append, List.nil_append, List.getElem?_cons_zero, List.getElem?_cons_succ, List.set_cons_zero, List.set_cons_succ, Option.bind_some, Option.map_some, Option.bind_none, Option.map_none, asB_bl, if_true, if_false, Bool.false_eq_true, Bool.true_eq_false, o_add, o_sub, c_lt, c_le, c_gt, c_ge, c_is, c_isnt, isNon, c_eqi, c_nei, i_tup, i_lst, i_scr, i_sdc, s_tup, s_lst, b_lenT, b_lenL, b_tupL, b_tupT, b_sum, b_all, b_max, b_int, b_intB, b_abs, sr_tup, sr_lst, at0, at1, at2, at3, at4, at5, partI, wipeE, eq_self, decide_true, decide_false, Bool.and_true, Bool.true_and, Bool.and_false, Bool.false_and, Bool.or_false, Bool.false_or, Bool.or_true, Bool.true_or, if_and, if_or, z_src, z_len, z_tail, z_front, z_at0, z_last, z_one, wkt0, wkl0, wkm0, wkt1, wkl1, wkm1, wkt2, wkl2, wkm2, wkt3, wkl3, wkm3, wkt4, wkl4, wkm4, wkt5, wkl5, wkm5, wkt6, wkl6, wkm6, wkt7, wkl7, wkm7, wkt8, wkl8, wkm8, sm_ok (show -100000 ≤ (1 : Int) ∧ (1 : Int) ≤ 100000 by omega), sm_ok (show -100000 ≤ room + 1 ∧ room + 1 ≤ 100000 by omega), and_self]
  generalize hX : lcN _ _ _ _ _ _ _ _ _ = X
  have key : ∃ acc M', X = some (acc, M') ∧ (∃ (zs : List Int) (k' : Dk), acc = zs.map .int ∧ M' = dC k' :: tl ∧ (∀ z ∈ zs, 1 ≤ z ∧ z ≤ 4) ∧ k'.Ok (c + (rngI 1 (room + 1)).length)) ∧ acc.length ≤ (rngI 1 (room + 1)).length := by
    rw [← hX]
    refine lcN_st (fun i acc M => ∃ (zs : List Int) (k' : Dk), acc = zs.map .int ∧ M = dC k' :: tl ∧ (∀ z ∈ zs, 1 ≤ z ∧ z ≤ 4) ∧ k'.Ok (c + i)) ⟨[], k, rfl, rfl, by simp, hk⟩ (fun i acc M d hd hl hP => ?_) (line_ge (by rw [rngI_len]; omega)) (by rw [rngI_len]; omega)
    obtain ⟨zs, k', rfl, rfl, hz, hk'⟩ := hP
    obtain ⟨rfl, hlt⟩ := rngI_at hd
    obtain ⟨v, k2, h1, h2, h3, h4⟩ := draw_ok (W := W) (n := n + 1) (tl := tl) hk' (by omega) (m := 3) (by omega)
    refine ⟨_, rfl, decide (0 < v), dC k2 :: tl, ?_, fun _ => ⟨zs, k2, rfl, rfl, hz, h4⟩, fun _ => ⟨.int (1 + (i : Int)), dC k2 :: tl, ?_, zs ++ [1 + (i : Int)], k2, by simp, rfl, ?_, h4⟩⟩
    · simp only [runB, outR, exs, ex, ev, evs, evo, evi, t_nm, t_tp, t_nil, t_cons, startE, List.map_cons, List.map_nil, List.length_cons, List.length_nil, Nat.reduceAdd, Nat.reduceSub, Nat.sub_self, List.replicate, List.append_nil, List.cons_append, List.nil_append, List.getElem?_cons_zero, List.getElem?_cons_succ, List.set_cons_zero, List.set_cons_succ, Option.bind_some, Option.map_some, Option.bind_none, Option.map_none, asB_bl, if_true, if_false, Bool.false_eq_true, Bool.true_eq_false, o_add, o_sub, c_lt, c_le, c_gt, c_ge, c_is, c_isnt, isNon, c_eqi, c_nei, i_tup, i_lst, i_scr, i_sdc, s_tup, s_lst, b_lenT, b_lenL, b_tupL, b_tupT, b_sum, b_all, b_max, b_int, b_intB, b_abs, sr_tup, sr_lst, at0, at1, at2, at3, at4, at5, partI, wipeE, eq_self, decide_true, decide_false, Bool.and_true, Bool.true_and, Bool.and_false, Bool.false_and, Bool.or_false, Bool.false_or, Bool.or_true, Bool.true_or, if_and, if_or, z_src, z_len, z_tail, z_front, z_at0, z_last, z_one, wkt0, wkl0, wkm0, wkt1, wkl1, wkm1, wkt2, wkl2, wkm2, wkt3, wkl3, wkm3, wkt4, wkl4, wkm4, wkt5, wkl5, wkm5, wkt6, wkl6, wkm6, wkt7, wkl7, wkm7, wkt8, wkl8, wkm8, h1]
    · simp only [runB, outR, exs, ex, ev, evs, evo, evi, t_nm, t_tp, t_nil, t_cons, startE, List.map_cons, List.map_nil, List.length_cons, List.length_nil, Nat.reduceAdd, Nat.reduceSub, Nat.sub_self, List.replicate, List.append_nil, List.cons_append, List.nil_append, List.getElem?_cons_zero, List.getElem?_cons_succ, List.set_cons_zero, List.set_cons_succ, Option.bind_some, Option.map_some, Option.bind_none, Option.map_none, asB_bl, if_true, if_false, Bool.false_eq_true, Bool.true_eq_false, o_add, o_sub, c_lt, c_le, c_gt, c_ge, c_is, c_isnt, isNon, c_eqi, c_nei, i_tup, i_lst, i_scr, i_sdc, s_tup, s_lst, b_lenT, b_lenL, b_tupL, b_tupT, b_sum, b_all, b_max, b_int, b_intB, b_abs, sr_tup, sr_lst, at0, at1, at2, at3, at4, at5, partI, wipeE, eq_self, decide_true, decide_false, Bool.and_true, Bool.true_and, Bool.and_false, Bool.false_and, Bool.or_false, Bool.false_or, Bool.or_true, Bool.true_or, if_and, if_or, z_src, z_len, z_tail, z_front, z_at0, z_last, z_one, wkt0, wkl0, wkm0, wkt1, wkl1, wkm1, wkt2, wkl2, wkm2, wkt3, wkl3, wkm3, wkt4, wkl4, wkm4, wkt5, wkl5, wkm5, wkt6, wkl6, wkm6, wkt7, wkl7, wkm7, wkt8, wkl8, wkm8]
    · intro z hz'
      rcases List.mem_append.mp hz' with hz' | hz'
      · exact hz z hz'
      · simp at hz'
        omega
  obtain ⟨acc, M', rfl, ⟨zs, k', rfl, rfl, hz, hk'⟩, hl⟩ := key
  rw [rngI_len] at hl hk'
  simp only [List.length_map] at hl
  have e := k_l (M := dC k' :: tl) (xs := zs.map D.int) (line_ge (by simp only [List.length_map]; omega))
  simp only [runB, outR, exs, ex, ev, evs, evo, evi, t_nm, t_tp, t_nil, t_cons, startE, List.map_cons, List.map_nil, List.length_cons, List.length_nil, Nat.reduceAdd, Nat.reduceSub, Nat.sub_self, List.replicate, List.append_nil, List.cons_append, List.nil_append, List.getElem?_cons_zero, List.getElem?_cons_succ, List.set_cons_zero, List.set_cons_succ, Option.bind_some, Option.map_some, Option.bind_none, Option.map_none, asB_bl, if_true, if_false, Bool.false_eq_true, Bool.true_eq_false, o_add, o_sub, c_lt, c_le, c_gt, c_ge, c_is, c_isnt, isNon, c_eqi, c_nei, i_tup, i_lst, i_scr, i_sdc, s_tup, s_lst, b_lenT, b_lenL, b_tupL, b_tupT, b_sum, b_all, b_max, b_int, b_intB, b_abs, sr_tup, sr_lst, at0, at1, at2, at3, at4, at5, partI, wipeE, eq_self, decide_true, decide_false, Bool.and_true, Bool.true_and, Bool.and_false, Bool.false_and, Bool.or_false, Bool.false_or, Bool.or_true, Bool.true_or, if_and, if_or, z_src, z_len, z_tail, z_front, z_at0, z_last, z_one, wkt0, wkl0, wkm0, wkt1, wkl1, wkm1, wkt2, wkl2, wkm2, wkt3, wkl3, wkm3, wkt4, wkl4, wkm4, wkt5, wkl5, wkm5, wkt6, wkl6, wkm6, wkt7, wkl7, wkm7, wkt8, wkl8, wkm8, e]
  exact ⟨zs, k', rfl, by omega, hz, hk'.mono (by omega)⟩
theorem weights_ok {n c : Nat} {k : Dk} {tl : Mem} {most room pat look wide : Int} {sizes : List Int} {y : Option D} (hW : 50000 < W) (hk : k.Ok c) (hc : c < 100000) (hr : 1 ≤ wide ∧ wide ≤ 9) :
    ∃ (zs : List Int) (k' : Dk), ex W (evalFn W defs (n + 2)) (.asg (.nm 8) (.lc false [9] (.nm 9) (.rng1 (.call 11 [(.var 0), (.lst false [(.lit (.int (2))), (.lit (.int (3))), (.lit (.int (3))), (.lit (.int (4))), (.lit (.int (5))), (.lit (.int (6)))])])) none (.bin .sub false (.call 10 [(.var 0), (.bin .add false (.bin .mul false (.lit (.int (2))) (.var 7)) (.lit (.int (1))))]) (.var 7))))
      [some (.loc 0), some (.int most), some (.int room), some (tZ sizes), none, some (.int pat), some (.int look), some (.int wide), none, none, none, none] (dC k :: tl) =
      some (.nx, [some (.loc 0), some (.int most), some (.int room), some (tZ sizes), none, some (.int pat), some (.int look), some (.int wide), some (.lst (zs.map .int)), none, none, none], dC k' :: tl) ∧ 2 ≤ zs.length ∧ zs.length ≤ 6 ∧ (∀ z ∈ zs, -9 ≤ z ∧ z ≤ 9) ∧ k'.Ok (c + 7) := by
  obtain ⟨len, k1, h1, h2, h3⟩ := one_z (W := W) (n := n) (tl := tl) hk (by omega) (zs := [2, 3, 3, 4, 5, 6]) (by simp) (by simp)
  simp only [List.map_cons, List.map_nil] at h2
  have hl : 2 ≤ len ∧ len ≤ 6 := by simp at h1; omega
  simp only [runB, outR, exs, ex, ev, evs, evo, evi, t_nm, t_tp, t_nil, t_cons, startE, List.map_cons, List.map_nil, List.length_cons, List.length_nil, Nat.reduceAdd, Nat.reduceSub, Nat.sub_self, List.replicate, List.append_nil, List.cons_append, List.nil_append, List.getElem?_cons_zero, List.getElem?_cons_succ, List.set_cons_zero, List.set_cons_succ, Option.bind_some, Option.map_some, Option.bind_none, Option.map_none, asB_bl, if_true, if_false, Bool.false_eq_true, Bool.true_eq_false, o_add, o_sub, c_lt, c_le, c_gt, c_ge, c_is, c_isnt, isNon, c_eqi, c_nei, i_tup, i_lst, i_scr, i_sdc, s_tup, s_lst, b_lenT, b_lenL, b_tupL, b_tupT, b_sum, b_all, b_max, b_int, b_intB, b_abs, sr_tup, sr_lst, at0, at1, at2, at3, at4, at5, partI, wipeE, eq_self, decide_true, decide_false, Bool.and_true, Bool.true_and, Bool.and_false, Bool.false_and, Bool.or_false, Bool.false_or, Bool.or_true, Bool.true_or, if_and, if_or, z_src, z_len, z_tail, z_front, z_at0, z_last, z_one, wkt0, wkl0, wkm0, wkt1, wkl1, wkm1, wkt2, wkl2, wkm2, wkt3, wkl3, wkm3, wkt4, wkl4, wkm4, wkt5, wkl5, wkm5, wkt6, wkl6, wkm6, wkt7, wkl7, wkm7, wkt8, wkl8, wkm8, h2, sm_ok (show -100000 ≤ len ∧ len ≤ 100000 by omega)]
  generalize hX : lcN _ _ _ _ _ _ _ _ _ = X
  have key : ∃ acc M', X = some (acc, M') ∧ (∃ (zs : List Int) (k' : Dk), acc = zs.map .int ∧ zs.length = (rngI 0 len).length ∧ M' = dC k' :: tl ∧ (∀ z ∈ zs, -9 ≤ z ∧ z ≤ 9) ∧ k'.Ok (c + 1 + (rngI 0 len).length)) ∧ acc.length ≤ (rngI 0 len).length := by
    rw [← hX]
    refine lcN_st (fun i acc M => ∃ (zs : List Int) (k' : Dk), acc = zs.map .int ∧ zs.length = i ∧ M = dC k' :: tl ∧ (∀ z ∈ zs, -9 ≤ z ∧ z ≤ 9) ∧ k'.Ok (c + 1 + i)) ⟨[], k1, rfl, rfl, rfl, by simp, h3⟩ (fun i acc M d hd hl hP => ?_) (line_ge (by rw [rngI_len]; omega)) (by rw [rngI_len]; omega)
    obtain ⟨zs, k', rfl, hln, rfl, hz, hk'⟩ := hP
    obtain ⟨rfl, hlt⟩ := rngI_at hd
    obtain ⟨v, k2, h1, h2, h3, h4⟩ := draw_ok (W := W) (n := n + 1) (tl := tl) hk' (by omega) (m := 2 * wide + 1) (by omega)
    refine ⟨_, rfl, true, dC k' :: tl, rfl, fun h => (by cases h), fun _ => ⟨.int (v - wide), dC k2 :: tl, ?_, zs ++ [v - wide], k2, by simp, by simp [hln], rfl, ?_, h4⟩⟩
    · simp only [runB, outR, exs, ex, ev, evs, evo, evi, t_nm, t_tp, t_nil, t_cons, startE, List.map_cons, List.map_nil, List.length_cons, List.length_nil, Nat.reduceAdd, Nat.reduceSub, Nat.sub_self, List.replicate, List.append_nil, List.cons_append, List.nil_append, List.getElem?_cons_zero, List.getElem?_cons_succ, List.set_cons_zero, List.set_cons_succ, Option.bind_some, Option.map_some, Option.bind_none, Option.map_none, asB_bl, if_true, if_false, Bool.false_eq_true, Bool.true_eq_false, o_add, o_sub, c_lt, c_le, c_gt, c_ge, c_is, c_isnt, isNon, c_eqi, c_nei, i_tup, i_lst, i_scr, i_sdc, s_tup, s_lst, b_lenT, b_lenL, b_tupL, b_tupT, b_sum, b_all, b_max, b_int, b_intB, b_abs, sr_tup, sr_lst, at0, at1, at2, at3, at4, at5, partI, wipeE, eq_self, decide_true, decide_false, Bool.and_true, Bool.true_and, Bool.and_false, Bool.false_and, Bool.or_false, Bool.false_or, Bool.or_true, Bool.true_or, if_and, if_or, z_src, z_len, z_tail, z_front, z_at0, z_last, z_one, wkt0, wkl0, wkm0, wkt1, wkl1, wkm1, wkt2, wkl2, wkm2, wkt3, wkl3, wkm3, wkt4, wkl4, wkm4, wkt5, wkl5, wkm5, wkt6, wkl6, wkm6, wkt7, wkl7, wkm7, wkt8, wkl8, wkm8, o_mul (show -100000 ≤ (2 : Int) ∧ (2 : Int) ≤ 100000 by omega), h1]
    · intro z hz'
      rcases List.mem_append.mp hz' with hz' | hz'
      · exact hz z hz'
      · simp at hz'
        omega
  obtain ⟨acc, M', rfl, ⟨zs, k', rfl, hln, rfl, hz, hk'⟩, hl⟩ := key
  rw [rngI_len] at hl hk' hln
  have e := k_l (M := dC k' :: tl) (xs := zs.map D.int) (line_ge (by simp only [List.length_map]; omega))
  simp only [runB, outR, exs, ex, ev, evs, evo, evi, t_nm, t_tp, t_nil, t_cons, startE, List.map_cons, List.map_nil, List.length_cons, List.length_nil, Nat.reduceAdd, Nat.reduceSub, Nat.sub_self, List.replicate, List.append_nil, List.cons_append, List.nil_append, List.getElem?_cons_zero, List.getElem?_cons_succ, List.set_cons_zero, List.set_cons_succ, Option.bind_some, Option.map_some, Option.bind_none, Option.map_none, asB_bl, if_true, if_false, Bool.false_eq_true, Bool.true_eq_false, o_add, o_sub, c_lt, c_le, c_gt, c_ge, c_is, c_isnt, isNon, c_eqi, c_nei, i_tup, i_lst, i_scr, i_sdc, s_tup, s_lst, b_lenT, b_lenL, b_tupL, b_tupT, b_sum, b_all, b_max, b_int, b_intB, b_abs, sr_tup, sr_lst, at0, at1, at2, at3, at4, at5, partI, wipeE, eq_self, decide_true, decide_false, Bool.and_true, Bool.true_and, Bool.and_false, Bool.false_and, Bool.or_false, Bool.false_or, Bool.or_true, Bool.true_or, if_and, if_or, z_src, z_len, z_tail, z_front, z_at0, z_last, z_one, wkt0, wkl0, wkm0, wkt1, wkl1, wkm1, wkt2, wkl2, wkm2, wkt3, wkl3, wkm3, wkt4, wkl4, wkm4, wkt5, wkl5, wkm5, wkt6, wkl6, wkm6, wkt7, wkl7, wkm7, wkt8, wkl8, wkm8, e]
  exact ⟨zs, k', rfl, by omega, by omega, hz, hk'.mono (by omega)⟩
end
end K37
set_option Elab.async false
set_option linter.all false
set_option maxRecDepth 100000
set_option maxHeartbeats 1000000
namespace K37
open PySem PySem.Spec PyProof.Rows L2 Wf
section
variable {W : Nat}
theorem ne_nilZ {zs : List Int} {M : Mem} : opCmp .ne (tZ zs) (.tup []) M = some (!zs.isEmpty) := by
  rw [cmp_ne (n := 1) (m := 1) (lf_tZ zs) rfl (py_tZ zs) rfl (gd_tZ zs) (gd_tup fun p hp => by simp at hp) (by omega) (by omega), eqv_nilT]
  cases zs <;> rfl
theorem wheel_ok {n c : Nat} {k : Dk} {tl : Mem} {most : Int} (hW : 50000 < W) (hk : k.Ok c) (hc : c < 50000) :
    ∃ w k', evalFn W defs (n + 3) 13 [.loc 0, .int most] (dC k :: tl) = some (wD w, dC k' :: tl) ∧ w.Ok ∧ k'.Ok (c + 40) := by
  rw [call_own (f := f__law_wheel) rfl rfl rfl, runB]
  simp only [f__law_wheel, c__law_wheel, startE, List.map_cons, List.map_nil, List.length_cons, List.length_nil, Nat.reduceAdd, Nat.reduceSub, List.replicate, List.cons_append, List.nil_append]
  -- the room
  obtain ⟨room, k1, hr, h1, hk1⟩ := one_z (W := W) (n := n) (tl := tl) hk (by omega) (zs := [1, 2, 2, 2, 3, 4]) (by simp) (by simp)
  simp only [List.map_cons, List.map_nil] at h1
  have hr : 1 ≤ room ∧ room ≤ 4 := by simp at hr; omega
  rw [exs_nx (e' := [some (.loc 0), some (.int most), some (.int room), none, none, none, none, none, none, none, none, none]) (M' := dC k1 :: tl) (by simp only [runB, outR, exs, ex, ev, evs, evo, evi, t_nm, t_tp, t_nil, t_cons, startE, List.map_cons, List.map_nil, List.length_cons, List.length_nil, Nat.reduceAdd, Nat.reduceSub, Nat.sub_self, List.replicate, List.append_nil, List.cons_append, List.nil_append, List.getElem?_cons_zero, List.getElem?_cons_succ, List.set_cons_zero, List.set_cons_succ, Option.bind_some, Option.map_some, Option.bind_none, Option.map_none, asB_bl, if_true, if_false, Bool.false_eq_true, Bool.true_eq_false, o_add, o_sub, c_lt, c_le, c_gt, c_ge, c_is, c_isnt, isNon, c_eqi, c_nei, i_tup, i_lst, i_scr, i_sdc, s_tup, s_lst, b_lenT, b_lenL, b_tupL, b_tupT, b_sum, b_all, b_max, b_int, b_intB, b_abs, sr_tup, sr_lst, at0, at1, at2, at3, at4, at5, partI, wipeE, eq_self, decide_true, decide_false, Bool.and_true, Bool.true_and, Bool.and_false, Bool.false_and, Bool.or_false, Bool.false_or, Bool.or_true, Bool.true_or, if_and, if_or, z_src, z_len, z_tail, z_front, z_at0, z_last, z_one, wkt0, wkl0, wkm0, wkt1, wkl1, wkm1, wkt2, wkl2, wkm2, wkt3, wkl3, wkm3, wkt4, wkl4, wkm4, wkt5, wkl5, wkm5, wkt6, wkl6, wkm6, wkt7, wkl7, wkm7, wkt8, wkl8, wkm8, h1])]
  -- the sizes
  obtain ⟨zs, k2, h2, hz1, hz2, hk2⟩ := sizes_ok (W := W) (n := n) (tl := tl) (most := most) (y := []) hW hk1 (by omega) hr
  rw [exs_nx h2]
  have h3 : ∃ (zs' : List Int) (k3 : Dk), ex W (evalFn W defs (n + 2)) (.asg (.nm 3) (.ife (.cmp .ne (.var 3) (.tup [])) (.var 3) (.tup [(.bin .add false (.lit (.int (1))) (.call 10 [(.var 0), (.var 2)]))])))
      [some (.loc 0), some (.int most), some (.int room), some (tZ zs), none, none, none, none, none, none, none, none] (dC k2 :: tl) =
      some (.nx, [some (.loc 0), some (.int most), some (.int room), some (tZ zs'), none, none, none, none, none, none, none, none], dC k3 :: tl) ∧ zs' ≠ [] ∧ zs'.length ≤ 4 ∧ (∀ z ∈ zs', 1 ≤ z ∧ z ≤ 4) ∧ k3.Ok (c + 1 + 4 + 1) := by
    cases he : zs.isEmpty with
    | true =>
      obtain ⟨v, k3, h1, h2, h3, h4⟩ := draw_ok (W := W) (n := n + 1) (tl := tl) hk2 (by omega) (m := room) (by omega)
      refine ⟨[1 + v], k3, ?_, by simp, by simp, ?_, h4⟩
      · simp only [runB, outR, exs, ex, ev, evs, evo, evi, t_nm, t_tp, t_nil, t_cons, startE, List.map_cons, List.map_nil, List.length_cons, List.length_nil, Nat.reduceAdd, Nat.reduceSub, Nat.sub_self, List.replicate, List.append_nil, List.cons_append, List.nil_append, List.getElem?_cons_zero, List.getElem?_cons_succ, List.set_cons_zero, List.set_cons_succ, Option.bind_some, Option.map_some, Option.bind_none, Option.map_none, asB_bl, if_true, if_false, Bool.false_eq_true, Bool.true_eq_false, o_add, o_sub, c_lt, c_le, c_gt, c_ge, c_is, c_isnt, isNon, c_eqi, c_nei, i_tup, i_lst, i_scr, i_sdc, s_tup, s_lst, b_lenT, b_lenL, b_tupL, b_tupT, b_sum, b_all, b_max, b_int, b_intB, b_abs, sr_tup, sr_lst, at0, at1, at2, at3, at4, at5, partI, wipeE, eq_self, decide_true, decide_false, Bool.and_true, Bool.true_and, Bool.and_false, Bool.false_and, Bool.or_false, Bool.false_or, Bool.or_true, Bool.true_or, if_and, if_or, z_src, z_len, z_tail, z_front, z_at0, z_last, z_one, wkt0, wkl0, wkm0, wkt1, wkl1, wkm1, wkt2, wkl2, wkm2, wkt3, wkl3, wkm3, wkt4, wkl4, wkm4, wkt5, wkl5, wkm5, wkt6, wkl6, wkm6, wkt7, wkl7, wkm7, wkt8, wkl8, wkm8, ne_nilZ, he, Bool.not_true, h1]
      · intro z hz
        simp at hz
        omega
    | false =>
      refine ⟨zs, k2, ?_, ?_, hz1, hz2, hk2.mono (by omega)⟩
      · simp only [runB, outR, exs, ex, ev, evs, evo, evi, t_nm, t_tp, t_nil, t_cons, startE, List.map_cons, List.map_nil, List.length_cons, List.length_nil, Nat.reduceAdd, Nat.reduceSub, Nat.sub_self, List.replicate, List.append_nil, List.cons_append, List.nil_append, List.getElem?_cons_zero, List.getElem?_cons_succ, List.set_cons_zero, List.set_cons_succ, Option.bind_some, Option.map_some, Option.bind_none, Option.map_none, asB_bl, if_true, if_false, Bool.false_eq_true, Bool.true_eq_false, o_add, o_sub, c_lt, c_le, c_gt, c_ge, c_is, c_isnt, isNon, c_eqi, c_nei, i_tup, i_lst, i_scr, i_sdc, s_tup, s_lst, b_lenT, b_lenL, b_tupL, b_tupT, b_sum, b_all, b_max, b_int, b_intB, b_abs, sr_tup, sr_lst, at0, at1, at2, at3, at4, at5, partI, wipeE, eq_self, decide_true, decide_false, Bool.and_true, Bool.true_and, Bool.and_false, Bool.false_and, Bool.or_false, Bool.false_or, Bool.or_true, Bool.true_or, if_and, if_or, z_src, z_len, z_tail, z_front, z_at0, z_last, z_one, wkt0, wkl0, wkm0, wkt1, wkl1, wkm1, wkt2, wkl2, wkm2, wkt3, wkl3, wkm3, wkt4, wkl4, wkm4, wkt5, wkl5, wkm5, wkt6, wkl6, wkm6, wkt7, wkl7, wkm7, wkt8, wkl8, wkm8, ne_nilZ, he, Bool.not_false]
      · intro z
        rw [z] at he; cases he
  obtain ⟨zs', k3, h3, hz0, hz1', hz2', hk3⟩ := h3
  rw [exs_nx h3]
  -- patience and look
  obtain ⟨v6, k4, h4, v61, v62, hk4⟩ := draw_ok (W := W) (n := n + 1) (tl := tl) hk3 (by omega) (m := 6) (by omega)
  obtain ⟨pat, k5, hp, h5, hk5⟩ := one_z (W := W) (n := n) (tl := tl) hk4 (by omega) (zs := [1, 1, 2, 2, 3, 1 + v6]) (by simp) (by simp)
  simp only [List.map_cons, List.map_nil] at h5
  have hp : 1 ≤ pat ∧ pat ≤ 6 := by simp at hp; omega
  obtain ⟨look, k6, hl, h6, hk6⟩ := one_z (W := W) (n := n) (tl := tl) hk5 (by omega) (zs := [1, 1, 1, 2, 3]) (by simp) (by simp)
  simp only [List.map_cons, List.map_nil] at h6
  have hl : 1 ≤ look ∧ look ≤ 3 := by simp at hl; omega
  rw [exs_nx (e' := [some (.loc 0), some (.int most), some (.int room), some (tZ zs'), none, some (.int pat), some (.int look), none, none, none, none, none]) (M' := dC k6 :: tl) (by simp only [runB, outR, exs, ex, ev, evs, evo, evi, t_nm, t_tp, t_nil, t_cons, startE, List.map_cons, List.map_nil, List.length_cons, List.length_nil, Nat.reduceAdd, Nat.reduceSub, Nat.sub_self, List.replicate, List.append_nil, List.cons_append, List.nil_append, List.getElem?_cons_zero, List.getElem?_cons_succ, List.set_cons_zero, List.set_cons_succ, Option.bind_some, Option.map_some, Option.bind_none, Option.map_none, asB_bl, if_true, if_false, Bool.false_eq_true, Bool.true_eq_false, o_add, o_sub, c_lt, c_le, c_gt, c_ge, c_is, c_isnt, isNon, c_eqi, c_nei, i_tup, i_lst, i_scr, i_sdc, s_tup, s_lst, b_lenT, b_lenL, b_tupL, b_tupT, b_sum, b_all, b_max, b_int, b_intB, b_abs, sr_tup, sr_lst, at0, at1, at2, at3, at4, at5, partI, wipeE, eq_self, decide_true, decide_false, Bool.and_true, Bool.true_and, Bool.and_false, Bool.false_and, Bool.or_false, Bool.false_or, Bool.or_true, Bool.true_or, if_and, if_or, z_src, z_len, z_tail, z_front, z_at0, z_last, z_one, wkt0, wkl0, wkm0, wkt1, wkl1, wkm1, wkt2, wkl2, wkm2, wkt3, wkl3, wkm3, wkt4, wkl4, wkm4, wkt5, wkl5, wkm5, wkt6, wkl6, wkm6, wkt7, wkl7, wkm7, wkt8, wkl8, wkm8, h4, h5, h6])]
  -- how wide
  obtain ⟨wide, k7, hw, h7, hk7⟩ := one_z (W := W) (n := n) (tl := tl) hk6 (by omega) (zs := [1, 1, 2, 9]) (by simp) (by simp)
  simp only [List.map_cons, List.map_nil] at h7
  have hw : 1 ≤ wide ∧ wide ≤ 9 := by simp at hw; omega
  rw [exs_nx (e' := [some (.loc 0), some (.int most), some (.int room), some (tZ zs'), none, some (.int pat), some (.int look), some (.int wide), none, none, none, none]) (M' := dC k7 :: tl) (by simp only [runB, outR, exs, ex, ev, evs, evo, evi, t_nm, t_tp, t_nil, t_cons, startE, List.map_cons, List.map_nil, List.length_cons, List.length_nil, Nat.reduceAdd, Nat.reduceSub, Nat.sub_self, List.replicate, List.append_nil, List.cons_append, List.nil_append, List.getElem?_cons_zero, List.getElem?_cons_succ, List.set_cons_zero, List.set_cons_succ, Option.bind_some, Option.map_some, Option.bind_none, Option.map_none, asB_bl, if_true, if_false, Bool.false_eq_true, Bool.true_eq_false, o_add, o_sub, c_lt, c_le, c_gt, c_ge, c_is, c_isnt, isNon, c_eqi, c_nei, i_tup, i_lst, i_scr, i_sdc, s_tup, s_lst, b_lenT, b_lenL, b_tupL, b_tupT, b_sum, b_all, b_max, b_int, b_intB, b_abs, sr_tup, sr_lst, at0, at1, at2, at3, at4, at5, partI, wipeE, eq_self, decide_true, decide_false, Bool.and_true, Bool.true_and, Bool.and_false, Bool.false_and, Bool.or_false, Bool.false_or, Bool.or_true, Bool.true_or, if_and, if_or, z_src, z_len, z_tail, z_front, z_at0, z_last, z_one, wkt0, wkl0, wkm0, wkt1, wkl1, wkm1, wkt2, wkl2, wkm2, wkt3, wkl3, wkm3, wkt4, wkl4, wkm4, wkt5, wkl5, wkm5, wkt6, wkl6, wkm6, wkt7, wkl7, wkm7, wkt8, wkl8, wkm8, h7])]
  obtain ⟨ws, k8, h8, hw1, hw2, hw3, hk8⟩ := weights_ok (W := W) (n := n) (tl := tl) (most := most) (room := room) (pat := pat) (look := look) (wide := wide) (sizes := zs') (y := none) hW hk7 (by omega) hw
  rw [exs_nx h8]
  -- fewer weights
  have h9 : ∃ ws' : List Int, ex W (evalFn W defs (n + 2)) (.whl (.and (.cmp .gt (.bi .len (.var 8)) (.lit (.int (2)))) (.cmp .gt (.call 12 [(.var 8), (.var 2), (.var 3), (.var 5), (.var 6)]) (.var 1))) [(.asg (.nm 8) (.slc false (.var 8) none (some (.neg (.lit (.int (1)))))))])
      [some (.loc 0), some (.int most), some (.int room), some (tZ zs'), none, some (.int pat), some (.int look), some (.int wide), some (.lst (ws.map .int)), none, none, none] (dC k8 :: tl) =
      some (.nx, [some (.loc 0), some (.int most), some (.int room), some (tZ zs'), none, some (.int pat), some (.int look), some (.int wide), some (.lst (ws'.map .int)), none, none, none], dC k8 :: tl) ∧ 2 ≤ ws'.length ∧ ws'.length ≤ 6 ∧ (∀ z ∈ ws', -9 ≤ z ∧ z ≤ 9) := by
    simp only [runB, outR, exs, ex, ev, evs, evo, evi, t_nm, t_tp, t_nil, t_cons, startE, List.map_cons, List.map_nil, List.length_cons, List.length_nil, Nat.reduceAdd, Nat.reduceSub, Nat.sub_self, List.replicate, List.append_nil, List.cons_append, List.nil_append, List.getElem?_cons_zero, List.getElem?_cons_succ, List.set_cons_zero, List.set_cons_succ, Option.bind_some, Option.map_some, Option.bind_none, Option.map_none, asB_bl, if_true, if_false, Bool.false_eq_true, Bool.true_eq_false, o_add, o_sub, c_lt, c_le, c_gt, c_ge, c_is, c_isnt, isNon, c_eqi, c_nei, i_tup, i_lst, i_scr, i_sdc, s_tup, s_lst, b_lenT, b_lenL, b_tupL, b_tupT, b_sum, b_all, b_max, b_int, b_intB, b_abs, sr_tup, sr_lst, at0, at1, at2, at3, at4, at5, partI, wipeE, eq_self, decide_true, decide_false, Bool.and_true, Bool.true_and, Bool.and_false, Bool.false_and, Bool.or_false, Bool.false_or, Bool.or_true, Bool.true_or, if_and, if_or, z_src, z_len, z_tail, z_front, z_at0, z_last, z_one, wkt0, wkl0, wkm0, wkt1, wkl1, wkm1, wkt2, wkl2, wkm2, wkt3, wkl3, wkm3, wkt4, wkl4, wkm4, wkt5, wkl5, wkm5, wkt6, wkl6, wkm6, wkt7, wkl7, wkm7, wkt8, wkl8, wkm8]
    generalize hX : whlN _ _ _ _ _ = X
    have key : ∃ e2 M2, X = some (.nx, e2, M2) ∧ ∃ ws' : List Int, e2 = [some (.loc 0), some (.int most), some (.int room), some (tZ zs'), none, some (.int pat), some (.int look), some (.int wide), some (.lst (ws'.map .int)), none, none, none] ∧ M2 = dC k8 :: tl ∧ 2 ≤ ws'.length ∧ ws'.length ≤ 6 ∧ (∀ z ∈ ws', -9 ≤ z ∧ z ≤ 9) := by
      rw [← hX]
      refine whlN_end (fun f e M => ∃ ws' : List Int, e = [some (.loc 0), some (.int most), some (.int room), some (tZ zs'), none, some (.int pat), some (.int look), some (.int wide), some (.lst (ws'.map .int)), none, none, none] ∧ M = dC k8 :: tl ∧ 2 ≤ ws'.length ∧ ws'.length ≤ 6 ∧ (∀ z ∈ ws', -9 ≤ z ∧ z ≤ 9) ∧ f = ws'.length) _ (fun f e M hP => ?_) W ws.length _ _ (by omega) ⟨ws, rfl, rfl, hw1, hw2, hw3, rfl⟩
      obtain ⟨ws', rfl, rfl, g1, g2, g3, rfl⟩ := hP
      obtain ⟨N, hN⟩ := count_ok (W := W) (n := n + 1) (M := dC k8 :: tl) (ws := ws') (sizes := zs') (room := room) (pat := pat) (look := look) hW g2 hr hz1' (by omega)
      clear hX
      cases hb : (decide ((2 : Int) < (ws'.length : Int)) && decide (most < N)) with
      | false =>
        refine .inl ⟨dC k8 :: tl, ?_, ws', rfl, rfl, g1, g2, g3⟩
        simp only [runB, outR, exs, ex, ev, evs, evo, evi, t_nm, t_tp, t_nil, t_cons, startE, List.map_cons, List.map_nil, List.length_cons, List.length_nil, Nat.reduceAdd, Nat.reduceSub, Nat.sub_self, List.replicate, List.append_nil, List.cons_append, List.nil_append, List.getElem?_cons_zero, List.getElem?_cons_succ, List.set_cons_zero, List.set_cons_succ, Option.bind_some, Option.map_some, Option.bind_none, Option.map_none, asB_bl, if_true, if_false, Bool.false_eq_true, Bool.true_eq_false, o_add, o_sub, c_lt, c_le, c_gt, c_ge, c_is, c_isnt, isNon, c_eqi, c_nei, i_tup, i_lst, i_scr, i_sdc, s_tup, s_lst, b_lenT, b_lenL, b_tupL, b_tupT, b_sum, b_all, b_max, b_int, b_intB, b_abs, sr_tup, sr_lst, at0, at1, at2, at3, at4, at5, partI, wipeE, eq_self, decide_true, decide_false, Bool.and_true, Bool.true_and, Bool.and_false, Bool.false_and, Bool.or_false, Bool.false_or, Bool.or_true, Bool.true_or, if_and, if_or, z_src, z_len, z_tail, z_front, z_at0, z_last, z_one, wkt0, wkl0, wkm0, wkt1, wkl1, wkm1, wkt2, wkl2, wkm2, wkt3, wkl3, wkm3, wkt4, wkl4, wkm4, wkt5, wkl5, wkm5, wkt6, wkl6, wkm6, wkt7, wkl7, wkm7, wkt8, wkl8, wkm8, List.length_map, hN, hb]
      | true =>
        refine .inr ⟨dC k8 :: tl, ?_, [some (.loc 0), some (.int most), some (.int room), some (tZ zs'), none, some (.int pat), some (.int look), some (.int wide), some (.lst (ws'.dropLast.map .int)), none, none, none], dC k8 :: tl, ?_, ws'.dropLast.length, ?_, ws'.dropLast, rfl, rfl, ?_, ?_, ?_, rfl⟩
        · simp only [runB, outR, exs, ex, ev, evs, evo, evi, t_nm, t_tp, t_nil, t_cons, startE, List.map_cons, List.map_nil, List.length_cons, List.length_nil, Nat.reduceAdd, Nat.reduceSub, Nat.sub_self, List.replicate, List.append_nil, List.cons_append, List.nil_append, List.getElem?_cons_zero, List.getElem?_cons_succ, List.set_cons_zero, List.set_cons_succ, Option.bind_some, Option.map_some, Option.bind_none, Option.map_none, asB_bl, if_true, if_false, Bool.false_eq_true, Bool.true_eq_false, o_add, o_sub, c_lt, c_le, c_gt, c_ge, c_is, c_isnt, isNon, c_eqi, c_nei, i_tup, i_lst, i_scr, i_sdc, s_tup, s_lst, b_lenT, b_lenL, b_tupL, b_tupT, b_sum, b_all, b_max, b_int, b_intB, b_abs, sr_tup, sr_lst, at0, at1, at2, at3, at4, at5, partI, wipeE, eq_self, decide_true, decide_false, Bool.and_true, Bool.true_and, Bool.and_false, Bool.false_and, Bool.or_false, Bool.false_or, Bool.or_true, Bool.true_or, if_and, if_or, z_src, z_len, z_tail, z_front, z_at0, z_last, z_one, wkt0, wkl0, wkm0, wkt1, wkl1, wkm1, wkt2, wkl2, wkm2, wkt3, wkl3, wkm3, wkt4, wkl4, wkm4, wkt5, wkl5, wkm5, wkt6, wkl6, wkm6, wkt7, wkl7, wkm7, wkt8, wkl8, wkm8, List.length_map, hN, hb]
        · have e := k_l (M := dC k8 :: tl) (xs := (ws'.map D.int).dropLast) (line_ge (by simp; omega))
          rw [List.map_dropLast]
          simp only [runB, outR, exs, ex, ev, evs, evo, evi, t_nm, t_tp, t_nil, t_cons, startE, List.map_cons, List.map_nil, List.length_cons, List.length_nil, Nat.reduceAdd, Nat.reduceSub, Nat.sub_self, List.replicate, List.append_nil, List.cons_append, List.nil_append, List.getElem?_cons_zero, List.getElem?_cons_succ, List.set_cons_zero, List.set_cons_succ, Option.bind_some, Option.map_some, Option.bind_none, Option.map_none, asB_bl, if_true, if_false, Bool.false_eq_true, Bool.true_eq_false, o_add, o_sub, c_lt, c_le, c_gt, c_ge, c_is, c_isnt, isNon, c_eqi, c_nei, i_tup, i_lst, i_scr, i_sdc, s_tup, s_lst, b_lenT, b_lenL, b_tupL, b_tupT, b_sum, b_all, b_max, b_int, b_intB, b_abs, sr_tup, sr_lst, at0, at1, at2, at3, at4, at5, partI, wipeE, eq_self, decide_true, decide_false, Bool.and_true, Bool.true_and, Bool.and_false, Bool.false_and, Bool.or_false, Bool.false_or, Bool.or_true, Bool.true_or, if_and, if_or, z_src, z_len, z_tail, z_front, z_at0, z_last, z_one, wkt0, wkl0, wkm0, wkt1, wkl1, wkm1, wkt2, wkl2, wkm2, wkt3, wkl3, wkm3, wkt4, wkl4, wkm4, wkt5, wkl5, wkm5, wkt6, wkl6, wkm6, wkt7, wkl7, wkm7, wkt8, wkl8, wkm8, cut_front, e]
        · simp; omega
        · simp at hb ⊢; omega
        · simp; omega
        · exact fun z hz => g3 z (List.dropLast_subset _ hz)
    obtain ⟨e2, M2, rfl, ws', rfl, rfl, g⟩ := key
    exact ⟨ws', rfl, g⟩
  obtain ⟨ws', h9, hv1, hv2, hv3⟩ := h9
  rw [exs_nx h9]
  -- one look
  have h10 : ∃ pat' look' : Int, ex W (evalFn W defs (n + 2)) (.ifs (.cmp .gt (.call 12 [(.var 8), (.var 2), (.var 3), (.var 5), (.var 6)]) (.var 1)) [(.asg (.tp [(.nm 5), (.nm 6)]) (.tup [(.lit (.int (1))), (.lit (.int (1)))]))] [])
      [some (.loc 0), some (.int most), some (.int room), some (tZ zs'), none, some (.int pat), some (.int look), some (.int wide), some (.lst (ws'.map .int)), none, none, none] (dC k8 :: tl) =
      some (.nx, [some (.loc 0), some (.int most), some (.int room), some (tZ zs'), none, some (.int pat'), some (.int look'), some (.int wide), some (.lst (ws'.map .int)), none, none, none], dC k8 :: tl) ∧ (1 ≤ pat' ∧ pat' ≤ 6) ∧ (1 ≤ look' ∧ look' ≤ 3) := by
    obtain ⟨N, hN⟩ := count_ok (W := W) (n := n + 1) (M := dC k8 :: tl) (ws := ws') (sizes := zs') (room := room) (pat := pat) (look := look) hW hv2 hr hz1' (by omega)
    cases hb : decide (most < N) with
    | true => exact ⟨1, 1, by simp only [runB, outR, exs, ex, ev, evs, evo, evi, t_nm, t_tp, t_nil, t_cons, startE, List.map_cons, List.map_nil, List.length_cons, List.length_nil, Nat.reduceAdd, Nat.reduceSub, Nat.sub_self, List.replicate, List.append_nil, List.cons_append, List.nil_append, List.getElem?_cons_zero, List.getElem?_cons_succ, List.set_cons_zero, List.set_cons_succ, Option.bind_some, Option.map_some, Option.bind_none, Option.map_none, asB_bl, if_true, if_false, Bool.false_eq_true, Bool.true_eq_false, o_add, o_sub, c_lt, c_le, c_gt, c_ge, c_is, c_isnt, isNon, c_eqi, c_nei, i_tup, i_lst, i_scr, i_sdc, s_tup, s_lst, b_lenT, b_lenL, b_tupL, b_tupT, b_sum, b_all, b_max, b_int, b_intB, b_abs, sr_tup, sr_lst, at0, at1, at2, at3, at4, at5, partI, wipeE, eq_self, decide_true, decide_false, Bool.and_true, Bool.true_and, Bool.and_false, Bool.false_and, Bool.or_false, Bool.false_or, Bool.or_true, Bool.true_or, if_and, if_or, z_src, z_len, z_tail, z_front, z_at0, z_last, z_one, wkt0, wkl0, wkm0, wkt1, wkl1, wkm1, wkt2, wkl2, wkm2, wkt3, wkl3, wkm3, wkt4, wkl4, wkm4, wkt5, wkl5, wkm5, wkt6, wkl6, wkm6, wkt7, wkl7, wkm7, wkt8, wkl8, wkm8, hN, hb], by omega, by omega⟩
    | false => exact ⟨pat, look, by simp only [runB, outR, exs, ex, ev, evs, evo, evi, t_nm, t_tp, t_nil, t_cons, startE, List.map_cons, List.map_nil, List.length_cons, List.length_nil, Nat.reduceAdd, Nat.reduceSub, Nat.sub_self, List.replicate, List.append_nil, List.cons_append, List.nil_append, List.getElem?_cons_zero, List.getElem?_cons_succ, List.set_cons_zero, List.set_cons_succ, Option.bind_some, Option.map_some, Option.bind_none, Option.map_none, asB_bl, if_true, if_false, Bool.false_eq_true, Bool.true_eq_false, o_add, o_sub, c_lt, c_le, c_gt, c_ge, c_is, c_isnt, isNon, c_eqi, c_nei, i_tup, i_lst, i_scr, i_sdc, s_tup, s_lst, b_lenT, b_lenL, b_tupL, b_tupT, b_sum, b_all, b_max, b_int, b_intB, b_abs, sr_tup, sr_lst, at0, at1, at2, at3, at4, at5, partI, wipeE, eq_self, decide_true, decide_false, Bool.and_true, Bool.true_and, Bool.and_false, Bool.false_and, Bool.or_false, Bool.false_or, Bool.or_true, Bool.true_or, if_and, if_or, z_src, z_len, z_tail, z_front, z_at0, z_last, z_one, wkt0, wkl0, wkm0, wkt1, wkl1, wkm1, wkt2, wkl2, wkm2, wkt3, wkl3, wkm3, wkt4, wkl4, wkm4, wkt5, wkl5, wkm5, wkt6, wkl6, wkm6, wkt7, wkl7, wkm7, wkt8, wkl8, wkm8, hN, hb], hp, hl⟩
  obtain ⟨pat', look', h10, hp', hl'⟩ := h10
  rw [exs_nx h10]
  -- bounds
  obtain ⟨far, k11, hf, h11, hk11⟩ := one_z (W := W) (n := n) (tl := tl) hk8 (by omega) (zs := [2, 4, 8, 30]) (by simp) (by simp)
  simp only [List.map_cons, List.map_nil] at h11
  have hf : 1 ≤ far ∧ far ≤ 30 := by simp at hf; omega
  rw [exs_nx (e' := [some (.loc 0), some (.int most), some (.int room), some (tZ zs'), none, some (.int pat'), some (.int look'), some (.int wide), some (.lst (ws'.map .int)), none, some (.int far), none]) (M' := dC k11 :: tl) (by simp only [runB, outR, exs, ex, ev, evs, evo, evi, t_nm, t_tp, t_nil, t_cons, startE, List.map_cons, List.map_nil, List.length_cons, List.length_nil, Nat.reduceAdd, Nat.reduceSub, Nat.sub_self, List.replicate, List.append_nil, List.cons_append, List.nil_append, List.getElem?_cons_zero, List.getElem?_cons_succ, List.set_cons_zero, List.set_cons_succ, Option.bind_some, Option.map_some, Option.bind_none, Option.map_none, asB_bl, if_true, if_false, Bool.false_eq_true, Bool.true_eq_false, o_add, o_sub, c_lt, c_le, c_gt, c_ge, c_is, c_isnt, isNon, c_eqi, c_nei, i_tup, i_lst, i_scr, i_sdc, s_tup, s_lst, b_lenT, b_lenL, b_tupL, b_tupT, b_sum, b_all, b_max, b_int, b_intB, b_abs, sr_tup, sr_lst, at0, at1, at2, at3, at4, at5, partI, wipeE, eq_self, decide_true, decide_false, Bool.and_true, Bool.true_and, Bool.and_false, Bool.false_and, Bool.or_false, Bool.false_or, Bool.or_true, Bool.true_or, if_and, if_or, z_src, z_len, z_tail, z_front, z_at0, z_last, z_one, wkt0, wkl0, wkm0, wkt1, wkl1, wkm1, wkt2, wkl2, wkm2, wkt3, wkl3, wkm3, wkt4, wkl4, wkm4, wkt5, wkl5, wkm5, wkt6, wkl6, wkm6, wkt7, wkl7, wkm7, wkt8, wkl8, wkm8, h11])]
  obtain ⟨lo, k12, h12, lo1, lo2, hk12⟩ := draw_ok (W := W) (n := n + 1) (tl := tl) hk11 (by omega) (m := far) (by omega)
  obtain ⟨hi, k13, h13, hi1, hi2, hk13⟩ := draw_ok (W := W) (n := n + 1) (tl := tl) hk12 (by omega) (m := far) (by omega)
  rw [exs_nx (e' := [some (.loc 0), some (.int most), some (.int room), some (tZ zs'), none, some (.int pat'), some (.int look'), some (.int wide), some (.lst (ws'.map .int)), none, some (.int far), some (.tup [.int (0 - lo), .int hi])]) (M' := dC k13 :: tl) (by simp only [runB, outR, exs, ex, ev, evs, evo, evi, t_nm, t_tp, t_nil, t_cons, startE, List.map_cons, List.map_nil, List.length_cons, List.length_nil, Nat.reduceAdd, Nat.reduceSub, Nat.sub_self, List.replicate, List.append_nil, List.cons_append, List.nil_append, List.getElem?_cons_zero, List.getElem?_cons_succ, List.set_cons_zero, List.set_cons_succ, Option.bind_some, Option.map_some, Option.bind_none, Option.map_none, asB_bl, if_true, if_false, Bool.false_eq_true, Bool.true_eq_false, o_add, o_sub, c_lt, c_le, c_gt, c_ge, c_is, c_isnt, isNon, c_eqi, c_nei, i_tup, i_lst, i_scr, i_sdc, s_tup, s_lst, b_lenT, b_lenL, b_tupL, b_tupT, b_sum, b_all, b_max, b_int, b_intB, b_abs, sr_tup, sr_lst, at0, at1, at2, at3, at4, at5, partI, wipeE, eq_self, decide_true, decide_false, Bool.and_true, Bool.true_and, Bool.and_false, Bool.false_and, Bool.or_false, Bool.false_or, Bool.or_true, Bool.true_or, if_and, if_or, z_src, z_len, z_tail, z_front, z_at0, z_last, z_one, wkt0, wkl0, wkm0, wkt1, wkl1, wkm1, wkt2, wkl2, wkm2, wkt3, wkl3, wkm3, wkt4, wkl4, wkm4, wkt5, wkl5, wkm5, wkt6, wkl6, wkm6, wkt7, wkl7, wkm7, wkt8, wkl8, wkm8, h12, h13])]
  obtain ⟨lk, rfl⟩ := Int.eq_ofNat_of_zero_le (show 0 ≤ look' by omega)
  refine ⟨⟨ws', room, zs', 0 - lo, hi, pat', lk⟩, k13, ?_, ⟨hv1, hv2, hv3, hr.1, hr.2, hz0, hz1', hz2', by simp; omega, by simp; omega, hp'.1, hp'.2, by simp; omega, by simp; omega, by simp; omega, by simp; omega⟩, hk13.mono (by omega)⟩
  simp only [runB, outR, exs, ex, ev, evs, evo, evi, t_nm, t_tp, t_nil, t_cons, startE, List.map_cons, List.map_nil, List.length_cons, List.length_nil, Nat.reduceAdd, Nat.reduceSub, Nat.sub_self, List.replicate, List.append_nil, List.cons_append, List.nil_append, List.getElem?_cons_zero, List.getElem?_cons_succ, List.set_cons_zero, List.set_cons_succ, Option.bind_some, Option.map_some, Option.bind_none, Option.map_none, asB_bl, if_true, if_false, Bool.false_eq_true, Bool.true_eq_false, o_add, o_sub, c_lt, c_le, c_gt, c_ge, c_is, c_isnt, isNon, c_eqi, c_nei, i_tup, i_lst, i_scr, i_sdc, s_tup, s_lst, b_lenT, b_lenL, b_tupL, b_tupT, b_sum, b_all, b_max, b_int, b_intB, b_abs, sr_tup, sr_lst, at0, at1, at2, at3, at4, at5, partI, wipeE, eq_self, decide_true, decide_false, Bool.and_true, Bool.true_and, Bool.and_false, Bool.false_and, Bool.or_false, Bool.false_or, Bool.or_true, Bool.true_or, if_and, if_or, z_src, z_len, z_tail, z_front, z_at0, z_last, z_one, wkt0, wkl0, wkm0, wkt1, wkl1, wkm1, wkt2, wkl2, wkm2, wkt3, wkl3, wkm3, wkt4, wkl4, wkm4, wkt5, wkl5, wkm5, wkt6, wkl6, wkm6, wkt7, wkl7, wkm7, wkt8, wkl8, wkm8]
  rfl
end
end K37
set_option Elab.async false
set_option linter.all false
set_option maxRecDepth 100000
set_option maxHeartbeats 1000000
namespace K37
open PySem PySem.Spec PyProof.Rows L2 Wf
section
variable {W : Nat}
theorem get_mid {a x : Cn} {tl gs : Mem} : (a :: (tl ++ x :: gs))[tl.length + 1]? = some x := by
  rw [List.getElem?_cons_succ, List.getElem?_append_right (Nat.le_refl _), Nat.sub_self]; rfl
theorem set_mid {a x y : Cn} {tl gs : Mem} : (a :: (tl ++ x :: gs)).set (tl.length + 1) y = a :: (tl ++ y :: gs) := by
  rw [List.set_cons_succ, List.set_append_right _ _ (Nat.le_refl _), Nat.sub_self]; rfl
theorem app_mid {W : Nat} {cl : Nat → List D → Mem → Option (D × Mem)} {a b : Ex} {e : Envi} {M M2 : Mem} {n : Nat} {xs ys : List D} {d : D} (h1 : ev W cl a e M = some (.loc n, M)) (h2 : M[n]? = some (.lst xs)) (h3 : ev W cl b e M = some (d, M2)) (h4 : M2[n]? = some (.lst ys)) (h5 : ys.length < sizeLine) :
    ex W cl (.ex (.app a b)) e M = some (.nx, e, M2.set n (.lst (ys ++ [d]))) := by
  simp only [ex, ev, h1, h3, locLst, h2, h4, h5, Option.bind_some, Option.map_some, if_true]
abbrev P30 : Int := 1000000000000000000000000000000
theorem p30 : (10 : Int) ^ (30 : Int).toNat = P30 := by decide
theorem test_ok {n c : Nat} {k : Dk} {tl : Mem} {xs : List D} {e0 e1 e2 e3 e5 e6 e7 e8 e9 : Option D} {ts : List Tst} (hk : k.Ok c) (hc : c < 90000) (hl : ts.length ≤ 100) :
    ∃ (t : Tst) (k' : Dk) (x6 x7 x8 : D), TOk t ∧ exs W (evalFn W defs (n + 2)) [(.asg (.nm 6) (.call 11 [(.var 0), (.lst false [(.lit (.str "load")), (.lit (.str "head")), (.lit (.str "waited")), (.lit (.str "lean")), (.lit (.str "ahead"))])])),
        (.asg (.nm 7) (.bin .sub false (.call 10 [(.var 0), (.lit (.int (5)))]) (.call 11 [(.var 0), (.lst false [(.lit (.int (0))), (.lit (.int (0))), (.lit (.int (0))), (.lit (.int (2))), (.lit (.int (9))), (.neg (.lit (.int (40)))), (.lit (.int (60))), (.bin .pow false (.lit (.int (10))) (.lit (.int (30))))])]))),
        (.asg (.nm 8) (.call 11 [(.var 0), (.lst false [(.call 10 [(.var 0), (.lit (.int (4)))]), (.call 10 [(.var 0), (.lit (.int (4)))]), (.lit (.int (10))), (.lit (.int (130))), (.bin .mul false (.lit (.int (2))) (.bin .pow false (.lit (.int (10))) (.lit (.int (30)))))])])),
        (.ex (.app (.var 4) (.tup [(.var 6), (.var 7), (.bin .add false (.var 7) (.var 8))])))]
      [some (.loc 0), e1, e2, e3, some (.loc (tl.length + 1)), e5, e6, e7, e8, e9] (dC k :: (tl ++ [.lst (ts.map tD)])) =
      some (.nx, [some (.loc 0), e1, e2, e3, some (.loc (tl.length + 1)), e5, some x6, some x7, some x8, e9], dC k' :: (tl ++ [.lst ((ts ++ [t]).map tD)])) ∧ k'.Ok (c + 6) := by
  obtain ⟨x6, k1, hx, h1, hk1⟩ := one_ok (W := W) (n := n) (tl := tl ++ [.lst (ts.map tD)]) hk (by omega) (xs := whats.map D.str) (by simp) (by simp)
  obtain ⟨what, hwh, rfl⟩ := List.mem_map.mp hx
  simp only [List.map_cons, List.map_nil] at h1
  rw [exs_nx (e' := [some (.loc 0), e1, e2, e3, some (.loc (tl.length + 1)), e5, some (.str what), e7, e8, e9]) (M' := dC k1 :: (tl ++ [.lst (ts.map tD)])) (by simp only [runB, outR, exs, ex, ev, evs, evo, evi, t_nm, t_tp, t_nil, t_cons, startE, List.map_cons, List.map_nil, List.length_cons, List.length_nil, Nat.reduceAdd, Nat.reduceSub, Nat.sub_self, List.replicate, List.append_nil, List.cons_append, List.nil_append, List.getElem?_cons_zero, List.getElem?_cons_succ, List.set_cons_zero, List.set_cons_succ, Option.bind_some, Option.map_some, Option.bind_none, Option.map_none, asB_bl, if_true, if_false, Bool.false_eq_true, Bool.true_eq_false, o_add, o_sub, c_lt, c_le, c_gt, c_ge, c_is, c_isnt, isNon, c_eqi, c_nei, i_tup, i_lst, i_scr, i_sdc, s_tup, s_lst, b_lenT, b_lenL, b_tupL, b_tupT, b_sum, b_all, b_max, b_int, b_intB, b_abs, sr_tup, sr_lst, at0, at1, at2, at3, at4, at5, partI, wipeE, eq_self, decide_true, decide_false, Bool.and_true, Bool.true_and, Bool.and_false, Bool.false_and, Bool.or_false, Bool.false_or, Bool.or_true, Bool.true_or, if_and, if_or, z_src, z_len, z_tail, z_front, z_at0, z_last, z_one, wkt0, wkl0, wkm0, wkt1, wkl1, wkm1, wkt2, wkl2, wkm2, wkt3, wkl3, wkm3, wkt4, wkl4, wkm4, wkt5, wkl5, wkm5, wkt6, wkl6, wkm6, wkt7, wkl7, wkm7, wkt8, wkl8, wkm8, h1])]
  obtain ⟨v, k2, h2, v1, v2, hk2⟩ := draw_ok (W := W) (n := n + 1) (tl := tl ++ [.lst (ts.map tD)]) hk1 (by omega) (m := 5) (by omega)
  obtain ⟨z, k3, hz, h3, hk3⟩ := one_z (W := W) (n := n) (tl := tl ++ [.lst (ts.map tD)]) hk2 (by omega) (zs := [0, 0, 0, 2, 9, -40, 60, P30]) (by simp) (by simp)
  simp only [List.map_cons, List.map_nil] at h3
  have hp10 : 0 ≤ (30 : Int) ∧ (30 : Int) ≤ 1000000 ∧ (10 : Int).natAbs < 2 ^ 64 := by decide
  rw [exs_nx (e' := [some (.loc 0), e1, e2, e3, some (.loc (tl.length + 1)), e5, some (.str what), some (.int (v - z)), e8, e9]) (M' := dC k3 :: (tl ++ [.lst (ts.map tD)])) (by simp only [runB, outR, exs, ex, ev, evs, evo, evi, t_nm, t_tp, t_nil, t_cons, startE, List.map_cons, List.map_nil, List.length_cons, List.length_nil, Nat.reduceAdd, Nat.reduceSub, Nat.sub_self, List.replicate, List.append_nil, List.cons_append, List.nil_append, List.getElem?_cons_zero, List.getElem?_cons_succ, List.set_cons_zero, List.set_cons_succ, Option.bind_some, Option.map_some, Option.bind_none, Option.map_none, asB_bl, if_true, if_false, Bool.false_eq_true, Bool.true_eq_false, o_add, o_sub, c_lt, c_le, c_gt, c_ge, c_is, c_isnt, isNon, c_eqi, c_nei, i_tup, i_lst, i_scr, i_sdc, s_tup, s_lst, b_lenT, b_lenL, b_tupL, b_tupT, b_sum, b_all, b_max, b_int, b_intB, b_abs, sr_tup, sr_lst, at0, at1, at2, at3, at4, at5, partI, wipeE, eq_self, decide_true, decide_false, Bool.and_true, Bool.true_and, Bool.and_false, Bool.false_and, Bool.or_false, Bool.false_or, Bool.or_true, Bool.true_or, if_and, if_or, z_src, z_len, z_tail, z_front, z_at0, z_last, z_one, wkt0, wkl0, wkm0, wkt1, wkl1, wkm1, wkt2, wkl2, wkm2, wkt3, wkl3, wkm3, wkt4, wkl4, wkm4, wkt5, wkl5, wkm5, wkt6, wkl6, wkm6, wkt7, wkl7, wkm7, wkt8, wkl8, wkm8, h2, o_pow hp10, p30, h3])]
  obtain ⟨u1, k4, h4, u11, u12, hk4⟩ := draw_ok (W := W) (n := n + 1) (tl := tl ++ [.lst (ts.map tD)]) hk3 (by omega) (m := 4) (by omega)
  obtain ⟨u2, k5, h5, u21, u22, hk5⟩ := draw_ok (W := W) (n := n + 1) (tl := tl ++ [.lst (ts.map tD)]) hk4 (by omega) (m := 4) (by omega)
  obtain ⟨u, k6, hu, h6, hk6⟩ := one_z (W := W) (n := n) (tl := tl ++ [.lst (ts.map tD)]) hk5 (by omega) (zs := [u1, u2, 10, 130, 2 * P30]) (by simp) (by simp)
  simp only [List.map_cons, List.map_nil] at h6
  rw [exs_nx (e' := [some (.loc 0), e1, e2, e3, some (.loc (tl.length + 1)), e5, some (.str what), some (.int (v - z)), some (.int u), e9]) (M' := dC k6 :: (tl ++ [.lst (ts.map tD)])) (by simp only [runB, outR, exs, ex, ev, evs, evo, evi, t_nm, t_tp, t_nil, t_cons, startE, List.map_cons, List.map_nil, List.length_cons, List.length_nil, Nat.reduceAdd, Nat.reduceSub, Nat.sub_self, List.replicate, List.append_nil, List.cons_append, List.nil_append, List.getElem?_cons_zero, List.getElem?_cons_succ, List.set_cons_zero, List.set_cons_succ, Option.bind_some, Option.map_some, Option.bind_none, Option.map_none, asB_bl, if_true, if_false, Bool.false_eq_true, Bool.true_eq_false, o_add, o_sub, c_lt, c_le, c_gt, c_ge, c_is, c_isnt, isNon, c_eqi, c_nei, i_tup, i_lst, i_scr, i_sdc, s_tup, s_lst, b_lenT, b_lenL, b_tupL, b_tupT, b_sum, b_all, b_max, b_int, b_intB, b_abs, sr_tup, sr_lst, at0, at1, at2, at3, at4, at5, partI, wipeE, eq_self, decide_true, decide_false, Bool.and_true, Bool.true_and, Bool.and_false, Bool.false_and, Bool.or_false, Bool.false_or, Bool.or_true, Bool.true_or, if_and, if_or, z_src, z_len, z_tail, z_front, z_at0, z_last, z_one, wkt0, wkl0, wkm0, wkt1, wkl1, wkm1, wkt2, wkl2, wkm2, wkt3, wkl3, wkm3, wkt4, wkl4, wkm4, wkt5, wkl5, wkm5, wkt6, wkl6, wkm6, wkt7, wkl7, wkm7, wkt8, wkl8, wkm8, h4, h5, o_pow hp10, p30, o_mul (show -100000 ≤ (2 : Int) ∧ (2 : Int) ≤ 100000 by omega), h6])]
  have ha := app_mid (W := W) (cl := evalFn W defs (n + 2)) (a := .var 4) (b := .tup [(.var 6), (.var 7), (.bin .add false (.var 7) (.var 8))]) (e := [some (.loc 0), e1, e2, e3, some (.loc (tl.length + 1)), e5, some (.str what), some (.int (v - z)), some (.int u), e9]) (M := dC k6 :: (tl ++ [.lst (ts.map tD)])) (M2 := dC k6 :: (tl ++ [.lst (ts.map tD)])) (n := tl.length + 1) (d := tD (what, v - z, v - z + u)) (by simp only [runB, outR, exs, ex, ev, evs, evo, evi, t_nm, t_tp, t_nil, t_cons, startE, List.map_cons, List.map_nil, List.length_cons, List.length_nil, Nat.reduceAdd, Nat.reduceSub, Nat.sub_self, List.replicate, List.append_nil, List.cons_append, List.nil_append, List.getElem?_cons_zero, List.getElem?_cons_succ, List.set_cons_zero, List.set_cons_succ, Option.bind_some, Option.map_some, Option.bind_none, Option.map_none, asB_bl, if_true, if_false, Bool.false_eq_true, Bool.true_eq_false, o_add, o_sub, c_lt, c_le, c_gt, c_ge, c_is, c_isnt, isNon, c_eqi, c_nei, i_tup, i_lst, i_scr, i_sdc, s_tup, s_lst, b_lenT, b_lenL, b_tupL, b_tupT, b_sum, b_all, b_max, b_int, b_intB, b_abs, sr_tup, sr_lst, at0, at1, at2, at3, at4, at5, partI, wipeE, eq_self, decide_true, decide_false, Bool.and_true, Bool.true_and, Bool.and_false, Bool.false_and, Bool.or_false, Bool.false_or, Bool.or_true, Bool.true_or, if_and, if_or, z_src, z_len, z_tail, z_front, z_at0, z_last, z_one, wkt0, wkl0, wkm0, wkt1, wkl1, wkm1, wkt2, wkl2, wkm2, wkt3, wkl3, wkm3, wkt4, wkl4, wkm4, wkt5, wkl5, wkm5, wkt6, wkl6, wkm6, wkt7, wkl7, wkm7, wkt8, wkl8, wkm8]) get_mid (by simp only [runB, outR, exs, ex, ev, evs, evo, evi, t_nm, t_tp, t_nil, t_cons, startE, List.map_cons, List.map_nil, List.length_cons, List.length_nil, Nat.reduceAdd, Nat.reduceSub, Nat.sub_self, List.replicate, List.append_nil, List.cons_append, List.nil_append, List.getElem?_cons_zero, List.getElem?_cons_succ, List.set_cons_zero, List.set_cons_succ, Option.bind_some, Option.map_some, Option.bind_none, Option.map_none, asB_bl, if_true, if_false, Bool.false_eq_true, Bool.true_eq_false, o_add, o_sub, c_lt, c_le, c_gt, c_ge, c_is, c_isnt, isNon, c_eqi, c_nei, i_tup, i_lst, i_scr, i_sdc, s_tup, s_lst, b_lenT, b_lenL, b_tupL, b_tupT, b_sum, b_all, b_max, b_int, b_intB, b_abs, sr_tup, sr_lst, at0, at1, at2, at3, at4, at5, partI, wipeE, eq_self, decide_true, decide_false, Bool.and_true, Bool.true_and, Bool.and_false, Bool.false_and, Bool.or_false, Bool.false_or, Bool.or_true, Bool.true_or, if_and, if_or, z_src, z_len, z_tail, z_front, z_at0, z_last, z_one, wkt0, wkl0, wkm0, wkt1, wkl1, wkm1, wkt2, wkl2, wkm2, wkt3, wkl3, wkm3, wkt4, wkl4, wkm4, wkt5, wkl5, wkm5, wkt6, wkl6, wkm6, wkt7, wkl7, wkm7, wkt8, wkl8, wkm8]; rfl) get_mid (Nat.lt_of_lt_of_le (show (ts.map tD).length < 100000 by simp; omega) (line_ge (Nat.le_refl _)))
  rw [set_mid] at ha
  rw [exs_nx ha, exs_nil]
  refine ⟨(what, v - z, v - z + u), k6, .str what, .int (v - z), .int u, ⟨hwh, ?_, ?_⟩, ?_, hk6.mono (by omega)⟩
  · simp only [List.mem_cons, List.not_mem_nil, or_false] at hz
    simp only [P30] at hz
    show -(10 ^ 32) ≤ v - z ∧ v - z ≤ 10 ^ 32
    omega
  · simp only [List.mem_cons, List.not_mem_nil, or_false] at hz hu
    simp only [P30] at hz hu
    show -(10 ^ 32) ≤ v - z + u ∧ v - z + u ≤ 10 ^ 32
    omega
  · simp
theorem ex_fr_nx {W : Nat} {cl : Nat → List D → Mem → Option (D × Mem)} {t : Tg} {it : Wf.It} {a : List Sm} {e : Envi} {M M1 : Mem} {ds : List D} (P : Nat → Envi → Mem → Prop) (hev : evi W cl it e M = some (.fix ds, M1)) (h0 : P 0 e M1)
    (h : ∀ i e M d, ds[i]? = some d → P i e M → ∃ e1, bindT t d e = some e1 ∧ ∃ e2 M2, exs W cl a e1 M = some (.nx, e2, M2) ∧ P (i + 1) e2 M2) (hw : ds.length < W) : ∃ e2 M2, ex W cl (.fr t it a) e M = some (.nx, e2, M2) ∧ P ds.length e2 M2 := by
  have := forN_nx (t := bindT t) (b := fun e M => exs W cl a e M) P h0 h hw
  simp only [ex, hev, Option.bind_some]
  exact this
theorem o_addLM {M : Mem} {n : Nat} {xs ys : List D} (h : M[n]? = some (.lst xs)) (hl : xs.length + ys.length ≤ sizeLine) : opBin .add false (.loc n) (.lst ys) M = some (.lst (xs ++ ys), M) := by
  show (itemsO M (.loc n)).bind _ = _
  simp only [itemsO, h, Option.bind_some]
  exact k_l (by simpa using hl)
theorem dk_app {k : Dk} {tl : Mem} {x : Cn} : dC k :: tl ++ [x] = dC k :: (tl ++ [x]) := rfl
abbrev LB : D := .tup [.tup [], .str BOARD]
abbrev LT : D := .tup [.tup [], .str TURN]
theorem rule_ok {n c : Nat} {k : Dk} {tl : Mem} {w : Wh} (hW : 50000 < W) (hk : k.Ok c) (hc : c < 50000) :
    ∃ r k' tl', evalFn W defs (n + 3) 17 [.loc 0, wD w] (dC k :: tl) = some (rD r, dC k' :: tl') ∧ ROk r ∧ k'.Ok (c + 60) := by
  rw [call_own (f := f__law_rule) rfl rfl rfl, runB]
  simp only [f__law_rule, c__law_rule, startE, List.map_cons, List.map_nil, List.length_cons, List.length_nil, Nat.reduceAdd, Nat.reduceSub, List.replicate, List.cons_append, List.nil_append]
  rw [exs_nx (e' := [some (.loc 0), some (wD w), some (.loc (tl.length + 1)), none, none, none, none, none, none, none]) (M' := dC k :: (tl ++ [.lst (([] : List Ln).map lD)])) (by simp only [runB, outR, exs, ex, ev, evs, evo, evi, t_nm, t_tp, t_nil, t_cons, startE, List.map_cons, List.map_nil, List.length_cons, List.length_nil, Nat.reduceAdd, Nat.reduceSub, Nat.sub_self, List.replicate, List.append_nil, List.cons_append, List.nil_append, List.getElem?_cons_zero, List.getElem?_cons_succ, List.set_cons_zero, List.set_cons_succ, Option.bind_some, Option.map_some, Option.bind_none, Option.map_none, asB_bl, if_true, if_false, Bool.false_eq_true, Bool.true_eq_false, o_add, o_sub, c_lt, c_le, c_gt, c_ge, c_is, c_isnt, isNon, c_eqi, c_nei, i_tup, i_lst, i_scr, i_sdc, s_tup, s_lst, b_lenT, b_lenL, b_tupL, b_tupT, b_sum, b_all, b_max, b_int, b_intB, b_abs, sr_tup, sr_lst, at0, at1, at2, at3, at4, at5, partI, wipeE, eq_self, decide_true, decide_false, Bool.and_true, Bool.true_and, Bool.and_false, Bool.false_and, Bool.or_false, Bool.false_or, Bool.or_true, Bool.true_or, if_and, if_or, z_src, z_len, z_tail, z_front, z_at0, z_last, z_one, wkt0, wkl0, wkm0, wkt1, wkl1, wkm1, wkt2, wkl2, wkm2, wkt3, wkl3, wkm3, wkt4, wkl4, wkm4, wkt5, wkl5, wkm5, wkt6, wkl6, wkm6, wkt7, wkl7, wkm7, wkt8, wkl8, wkm8])]
  obtain ⟨v, k1, h1, v1, v2, hk1⟩ := draw_ok (W := W) (n := n + 1) (tl := tl ++ [.lst (([] : List Ln).map lD)]) hk (by omega) (m := 4) (by omega)
  refine Exists.elim (ex_fr_nx (W := W) (cl := evalFn W defs (n + 2)) (t := .nm 3) (it := .rng1 (.call 10 [(.var 0), (.lit (.int (4)))])) (ds := rngI 0 v) (a := [(.asg (.nm 4) (.lst true [])),
  (.fr (.nm 5) (.rng1 (.call 10 [(.var 0), (.lit (.int (3)))])) [(.asg (.nm 6) (.call 11 [(.var 0), (.lst false [(.lit (.str "load")), (.lit (.str "head")), (.lit (.str "waited")), (.lit (.str "lean")), (.lit (.str "ahead"))])])),
  (.asg (.nm 7) (.bin .sub false (.call 10 [(.var 0), (.lit (.int (5)))]) (.call 11 [(.var 0), (.lst false [(.lit (.int (0))), (.lit (.int (0))), (.lit (.int (0))), (.lit (.int (2))), (.lit (.int (9))), (.neg (.lit (.int (40)))), (.lit (.int (60))), (.bin .pow false (.lit (.int (10))) (.lit (.int (30))))])]))),
  (.asg (.nm 8) (.call 11 [(.var 0), (.lst false [(.call 10 [(.var 0), (.lit (.int (4)))]), (.call 10 [(.var 0), (.lit (.int (4)))]), (.lit (.int (10))), (.lit (.int (130))), (.bin .mul false (.lit (.int (2))) (.bin .pow false (.lit (.int (10))) (.lit (.int (30)))))])])),
  (.ex (.app (.var 4) (.tup [(.var 6), (.var 7), (.bin .add false (.var 7) (.var 8))])))]),
  (.ex (.app (.var 2) (.tup [(.bi .tuple (.var 4)), (.call 11 [(.var 0), (.lst false [(.lit (.str "board")), (.lit (.str "turn"))])])])))])
    (e := [some (.loc 0), some (wD w), some (.loc (tl.length + 1)), none, none, none, none, none, none, none]) (M := dC k :: (tl ++ [.lst (([] : List Ln).map lD)])) (M1 := dC k1 :: (tl ++ [.lst (([] : List Ln).map lD)]))
    (fun i e M => ∃ (r : List Ln) (gs : Mem) (k2 : Dk) (x3 x4 x5 x6 x7 x8 : Option D), e = [some (.loc 0), some (wD w), some (.loc (tl.length + 1)), x3, x4, x5, x6, x7, x8, none] ∧ M = dC k2 :: (tl ++ .lst (r.map lD) :: gs) ∧ r.length = i ∧ (∀ l ∈ r, LOk l) ∧ k2.Ok (c + 1 + 14 * i))
    (by simp only [evi, ev, evs, List.getElem?_cons_zero, Option.bind_some, Option.map_some, h1, sm_ok (show -100000 ≤ v ∧ v ≤ 100000 by omega), if_true]) ⟨[], [], k1, none, none, none, none, none, none, rfl, rfl, rfl, by simp, hk1⟩ (fun i e M d hd hP => ?_) (by rw [rngI_len]; omega)) ?_
  · obtain ⟨r, gs, k2, x3, x4, x5, x6, x7, x8, rfl, rfl, hrl, hr, hk2⟩ := hP
    obtain ⟨rfl, hlt⟩ := rngI_at hd
    refine ⟨_, rfl, ?_⟩
    have hl4 : (tl ++ Cn.lst (r.map lD) :: gs).length + 1 = (dC k2 :: (tl ++ Cn.lst (r.map lD) :: gs)).length := by simp
    rw [exs_nx (e' := [some (.loc 0), some (wD w), some (.loc (tl.length + 1)), some (.int (0 + (i : Int))), some (.loc ((tl ++ Cn.lst (r.map lD) :: gs).length + 1)), x5, x6, x7, x8, none]) (M' := dC k2 :: ((tl ++ .lst (r.map lD) :: gs) ++ [.lst (([] : List Tst).map tD)])) (by simp only [runB, outR, exs, ex, ev, evs, evo, evi, t_nm, t_tp, t_nil, t_cons, startE, List.map_cons, List.map_nil, List.length_cons, List.length_nil, Nat.reduceAdd, Nat.reduceSub, Nat.sub_self, List.replicate, List.append_nil, List.cons_append, List.nil_append, List.getElem?_cons_zero, List.getElem?_cons_succ, List.set_cons_zero, List.set_cons_succ, Option.bind_some, Option.map_some, Option.bind_none, Option.map_none, asB_bl, if_true, if_false, Bool.false_eq_true, Bool.true_eq_false, o_add, o_sub, c_lt, c_le, c_gt, c_ge, c_is, c_isnt, isNon, c_eqi, c_nei, i_tup, i_lst, i_scr, i_sdc, s_tup, s_lst, b_lenT, b_lenL, b_tupL, b_tupT, b_sum, b_all, b_max, b_int, b_intB, b_abs, sr_tup, sr_lst, at0, at1, at2, at3, at4, at5, partI, wipeE, eq_self, decide_true, decide_false, Bool.and_true, Bool.true_and, Bool.and_false, Bool.false_and, Bool.or_false, Bool.false_or, Bool.or_true, Bool.true_or, if_and, if_or, z_src, z_len, z_tail, z_front, z_at0, z_last, z_one, wkt0, wkl0, wkm0, wkt1, wkl1, wkm1, wkt2, wkl2, wkm2, wkt3, wkl3, wkm3, wkt4, wkl4, wkm4, wkt5, wkl5, wkm5, wkt6, wkl6, wkm6, wkt7, wkl7, wkm7, wkt8, wkl8, wkm8])]
    obtain ⟨u, k3, h3, u1, u2, hk3⟩ := draw_ok (W := W) (n := n + 1) (tl := (tl ++ .lst (r.map lD) :: gs) ++ [.lst (([] : List Tst).map tD)]) hk2 (by omega) (m := 3) (by omega)
    refine Exists.elim (ex_fr_nx (W := W) (cl := evalFn W defs (n + 2)) (t := .nm 5) (it := .rng1 (.call 10 [(.var 0), (.lit (.int (3)))])) (ds := rngI 0 u) (a := [(.asg (.nm 6) (.call 11 [(.var 0), (.lst false [(.lit (.str "load")), (.lit (.str "head")), (.lit (.str "waited")), (.lit (.str "lean")), (.lit (.str "ahead"))])])),
  (.asg (.nm 7) (.bin .sub false (.call 10 [(.var 0), (.lit (.int (5)))]) (.call 11 [(.var 0), (.lst false [(.lit (.int (0))), (.lit (.int (0))), (.lit (.int (0))), (.lit (.int (2))), (.lit (.int (9))), (.neg (.lit (.int (40)))), (.lit (.int (60))), (.bin .pow false (.lit (.int (10))) (.lit (.int (30))))])]))),
  (.asg (.nm 8) (.call 11 [(.var 0), (.lst false [(.call 10 [(.var 0), (.lit (.int (4)))]), (.call 10 [(.var 0), (.lit (.int (4)))]), (.lit (.int (10))), (.lit (.int (130))), (.bin .mul false (.lit (.int (2))) (.bin .pow false (.lit (.int (10))) (.lit (.int (30)))))])])),
  (.ex (.app (.var 4) (.tup [(.var 6), (.var 7), (.bin .add false (.var 7) (.var 8))])))])
      (e := [some (.loc 0), some (wD w), some (.loc (tl.length + 1)), some (.int (0 + (i : Int))), some (.loc ((tl ++ Cn.lst (r.map lD) :: gs).length + 1)), x5, x6, x7, x8, none]) (M := dC k2 :: ((tl ++ .lst (r.map lD) :: gs) ++ [.lst (([] : List Tst).map tD)])) (M1 := dC k3 :: ((tl ++ .lst (r.map lD) :: gs) ++ [.lst (([] : List Tst).map tD)]))
      (fun j e M => ∃ (ts : List Tst) (k4 : Dk) (y5 y6 y7 y8 : Option D), e = [some (.loc 0), some (wD w), some (.loc (tl.length + 1)), some (.int (0 + (i : Int))), some (.loc ((tl ++ Cn.lst (r.map lD) :: gs).length + 1)), y5, y6, y7, y8, none] ∧ M = dC k4 :: ((tl ++ .lst (r.map lD) :: gs) ++ [.lst (ts.map tD)]) ∧ ts.length = j ∧ (∀ t ∈ ts, TOk t) ∧ k4.Ok (c + 1 + 14 * i + 1 + 6 * j))
      (by simp only [evi, ev, evs, List.getElem?_cons_zero, Option.bind_some, Option.map_some, h3, sm_ok (show -100000 ≤ u ∧ u ≤ 100000 by omega), if_true]) ⟨[], k3, _, _, _, _, rfl, rfl, rfl, by simp, hk3⟩ (fun j e M d hd hP => ?_) (by rw [rngI_len]; omega)) ?_
    · obtain ⟨ts, k4, y5, y6, y7, y8, rfl, rfl, htl, hts, hk4⟩ := hP
      obtain ⟨rfl, hlt2⟩ := rngI_at hd
      refine ⟨_, rfl, ?_⟩
      obtain ⟨t, k5, x6, x7, x8, ht, hex, hk5⟩ := test_ok (W := W) (n := n) (tl := tl ++ .lst (r.map lD) :: gs) (xs := []) (e0 := none) (e1 := some (wD w)) (e2 := some (.loc (tl.length + 1))) (e3 := some (.int (0 + (i : Int)))) (e5 := some (.int (0 + (j : Int)))) (e6 := y6) (e7 := y7) (e8 := y8) (e9 := none) (ts := ts) hk4 (by omega) (by omega)
      refine ⟨_, _, hex, ts ++ [t], k5, _, _, _, _, rfl, rfl, by simp [htl], fun t' ht' => ?_, hk5.mono (by omega)⟩
      rcases List.mem_append.mp ht' with h | h
      · exact hts t' h
      · rw [List.mem_singleton.mp h]; exact ht
    · rintro e3 ⟨M3, hfr, hP⟩
      rw [exs_nx hfr]
      obtain ⟨ts, k4, y5, y6, y7, y8, rfl, rfl, htl, hts, hk4⟩ := hP
      rw [rngI_len] at htl hk4
      obtain ⟨x, k5, hx, h5, hk5⟩ := one_ok (W := W) (n := n) (tl := (tl ++ .lst (r.map lD) :: gs) ++ [.lst (ts.map tD)]) hk4 (by omega) (xs := [.str BOARD, .str TURN]) (by simp) (by simp)
      have hx' : ∃ a, x = .str a ∧ (a = BOARD ∨ a = TURN) := by
        simp only [List.mem_cons, List.not_mem_nil, or_false] at hx
        rcases hx with rfl | rfl
        · exact ⟨_, rfl, .inl rfl⟩
        · exact ⟨_, rfl, .inr rfl⟩
      obtain ⟨a, rfl, ha⟩ := hx'
      have hm : ∀ k : Dk, dC k :: ((tl ++ Cn.lst (r.map lD) :: gs) ++ [Cn.lst (ts.map tD)]) = dC k :: (tl ++ Cn.lst (r.map lD) :: (gs ++ [Cn.lst (ts.map tD)])) := fun k => by simp
      have hb := b_tupM (M := dC k4 :: ((tl ++ Cn.lst (r.map lD) :: gs) ++ [Cn.lst (ts.map tD)])) (n := (tl ++ Cn.lst (r.map lD) :: gs).length + 1) get_mid
      have happ := app_mid (W := W) (cl := evalFn W defs (n + 2)) (a := .var 2) (b := .tup [(.bi .tuple (.var 4)), (.call 11 [(.var 0), (.lst false [(.lit (.str "board")), (.lit (.str "turn"))])])]) (e := [some (.loc 0), some (wD w), some (.loc (tl.length + 1)), some (.int (0 + (i : Int))), some (.loc ((tl ++ Cn.lst (r.map lD) :: gs).length + 1)), y5, y6, y7, y8, none])
        (M := dC k4 :: ((tl ++ Cn.lst (r.map lD) :: gs) ++ [Cn.lst (ts.map tD)])) (M2 := dC k5 :: ((tl ++ Cn.lst (r.map lD) :: gs) ++ [Cn.lst (ts.map tD)])) (n := tl.length + 1) (d := lD (ts, a)) (xs := r.map lD) (ys := r.map lD)
        (by simp only [ev, List.getElem?_cons_succ, List.getElem?_cons_zero]) (by rw [hm]; exact get_mid)
        (by simp only [ev, evs, List.getElem?_cons_succ, List.getElem?_cons_zero, Option.bind_some, Option.map_some, hb, wkl2, h5, wkt2]; rfl) (by rw [hm]; exact get_mid) (Nat.lt_of_lt_of_le (show (r.map lD).length < 100000 by simp; omega) (line_ge (Nat.le_refl _)))
      rw [hm k4, hm k5, set_mid] at happ
      rw [hm k4, exs_nx happ, exs_nil]
      refine ⟨_, _, rfl, r ++ [(ts, a)], gs ++ [Cn.lst (ts.map tD)], k5, _, _, _, _, _, _, rfl, by simp, by simp [hrl], fun l hl => ?_, hk5.mono (by omega)⟩
      rcases List.mem_append.mp hl with hl | hl
      · exact hr l hl
      · rw [List.mem_singleton.mp hl]
        exact ⟨ha, by show ts.length ≤ 10; omega, hts⟩
  · rintro e2 ⟨M2, hfr, hP⟩
    rw [exs_nx hfr]
    obtain ⟨r, gs, k2, x3, x4, x5, x6, x7, x8, rfl, rfl, hrl, hr, hk2⟩ := hP
    rw [rngI_len] at hrl hk2
    rw [exs_nx (e' := [some (.loc 0), some (wD w), some (.loc (tl.length + 1)), x3, x4, x5, x6, x7, x8, some (.lst [.lst [], .lst [LB], .lst [LB, LT], .lst [LT, LB]])]) (M' := dC k2 :: (tl ++ .lst (r.map lD) :: gs)) (by simp only [runB, outR, exs, ex, ev, evs, evo, evi, t_nm, t_tp, t_nil, t_cons, startE, List.map_cons, List.map_nil, List.length_cons, List.length_nil, Nat.reduceAdd, Nat.reduceSub, Nat.sub_self, List.replicate, List.append_nil, List.cons_append, List.nil_append, List.getElem?_cons_zero, List.getElem?_cons_succ, List.set_cons_zero, List.set_cons_succ, Option.bind_some, Option.map_some, Option.bind_none, Option.map_none, asB_bl, if_true, if_false, Bool.false_eq_true, Bool.true_eq_false, o_add, o_sub, c_lt, c_le, c_gt, c_ge, c_is, c_isnt, isNon, c_eqi, c_nei, i_tup, i_lst, i_scr, i_sdc, s_tup, s_lst, b_lenT, b_lenL, b_tupL, b_tupT, b_sum, b_all, b_max, b_int, b_intB, b_abs, sr_tup, sr_lst, at0, at1, at2, at3, at4, at5, partI, wipeE, eq_self, decide_true, decide_false, Bool.and_true, Bool.true_and, Bool.and_false, Bool.false_and, Bool.or_false, Bool.false_or, Bool.or_true, Bool.true_or, if_and, if_or, z_src, z_len, z_tail, z_front, z_at0, z_last, z_one, wkt0, wkl0, wkm0, wkt1, wkl1, wkm1, wkt2, wkl2, wkm2, wkt3, wkl3, wkm3, wkt4, wkl4, wkm4, wkt5, wkl5, wkm5, wkt6, wkl6, wkm6, wkt7, wkl7, wkm7, wkt8, wkl8, wkm8])]
    obtain ⟨x, k3, hx, h3, hk3⟩ := one_ok (W := W) (n := n) (tl := tl ++ .lst (r.map lD) :: gs) hk2 (by omega) (xs := [.lst [], .lst [LB], .lst [LB, LT], .lst [LT, LB], .lst [LB, LT], .lst [LT, LB]]) (by simp) (by simp)
    have hx' : ∃ r2 : List Ln, x = .lst (r2.map lD) ∧ r2.length ≤ 2 ∧ ∀ l ∈ r2, LOk l := by
      have lb : LOk (([], BOARD) : Ln) := ⟨.inl rfl, by simp, by simp⟩
      have lt : LOk (([], TURN) : Ln) := ⟨.inr rfl, by simp, by simp⟩
      have two : ∀ a b : Ln, LOk a → LOk b → ∀ l ∈ [a, b], LOk l := fun a b ha hb l hl => by
        rcases List.mem_cons.mp hl with rfl | hl
        · exact ha
        · rw [List.mem_singleton.mp hl]; exact hb
      simp only [List.mem_cons, List.not_mem_nil, or_false] at hx
      rcases hx with rfl | rfl | rfl | rfl | rfl | rfl
      · exact ⟨[], rfl, by simp, by simp⟩
      · exact ⟨[([], BOARD)], rfl, by simp, fun l hl => by rw [List.mem_singleton.mp hl]; exact lb⟩
      · exact ⟨[([], BOARD), ([], TURN)], rfl, by simp, two _ _ lb lt⟩
      · exact ⟨[([], TURN), ([], BOARD)], rfl, by simp, two _ _ lt lb⟩
      · exact ⟨[([], BOARD), ([], TURN)], rfl, by simp, two _ _ lb lt⟩
      · exact ⟨[([], TURN), ([], BOARD)], rfl, by simp, two _ _ lt lb⟩
    obtain ⟨r2, rfl, hr2, hr3⟩ := hx'
    refine ⟨r ++ r2, k3, tl ++ .lst (r.map lD) :: gs, ?_, ⟨by simp; omega, fun l hl => ?_⟩, hk3.mono (by omega)⟩
    · have hcut : Wf.cutD [.lst [], .lst [LB], .lst [LB, LT], .lst [LT, LB]] (some 2) none = [.lst [LB, LT], .lst [LT, LB]] := rfl
      have hadd := o_addLM (M := dC k3 :: (tl ++ .lst (r.map lD) :: gs)) (n := tl.length + 1) (xs := r.map lD) (ys := r2.map lD) get_mid (by simp; exact line_ge (by omega))
      have hadd2 := o_ladd (M := dC k2 :: (tl ++ .lst (r.map lD) :: gs)) (xs := [.lst [], .lst [LB], .lst [LB, LT], .lst [LT, LB]]) (ys := [.lst [LB, LT], .lst [LT, LB]]) (line_ge (by simp))
      simp only [List.cons_append, List.nil_append] at hadd2
      simp only [runB, outR, exs, ex, ev, evs, evo, evi, t_nm, t_tp, t_nil, t_cons, startE, List.map_cons, List.map_nil, List.length_cons, List.length_nil, Nat.reduceAdd, Nat.reduceSub, Nat.sub_self, List.replicate, List.append_nil, List.cons_append, List.nil_append, List.getElem?_cons_zero, List.getElem?_cons_succ, List.set_cons_zero, List.set_cons_succ, Option.bind_some, Option.map_some, Option.bind_none, Option.map_none, asB_bl, if_true, if_false, Bool.false_eq_true, Bool.true_eq_false, o_add, o_sub, c_lt, c_le, c_gt, c_ge, c_is, c_isnt, isNon, c_eqi, c_nei, i_tup, i_lst, i_scr, i_sdc, s_tup, s_lst, b_lenT, b_lenL, b_tupL, b_tupT, b_sum, b_all, b_max, b_int, b_intB, b_abs, sr_tup, sr_lst, at0, at1, at2, at3, at4, at5, partI, wipeE, eq_self, decide_true, decide_false, Bool.and_true, Bool.true_and, Bool.and_false, Bool.false_and, Bool.or_false, Bool.false_or, Bool.or_true, Bool.true_or, if_and, if_or, z_src, z_len, z_tail, z_front, z_at0, z_last, z_one, wkt0, wkl0, wkm0, wkt1, wkl1, wkm1, wkt2, wkl2, wkm2, wkt3, wkl3, wkm3, wkt4, wkl4, wkm4, wkt5, wkl5, wkm5, wkt6, wkl6, wkm6, wkt7, wkl7, wkm7, wkt8, wkl8, wkm8, hcut, hadd2, h3, hadd]
      rw [← List.map_append]
      rfl
    · rcases List.mem_append.mp hl with hl | hl
      · exact hr l hl
      · exact hr3 l hl
end
end K37
set_option Elab.async false
set_option linter.all false
set_option maxRecDepth 100000
set_option maxHeartbeats 1000000
namespace K37
open PySem PySem.Spec PyProof.Rows L2 Wf
section
variable {W : Nat}
theorem queue_ok {n c : Nat} {k : Dk} {tl : Mem} {w : Wh} (hW : 50000 < W) (hw : w.Ok) (hk : k.Ok c) (hc : c < 50000) :
    ∃ (q : List Int) (k' : Dk), evalFn W defs (n + 3) 20 [.loc 0, wD w, .int 21] (dC k :: tl) = some (tZ q, dC k' :: tl) ∧ QOk w q ∧ q.length ≤ w.look + 20 ∧ k'.Ok (c + 30) := by
  rw [call_own (f := f__law_queue) rfl rfl rfl, runB]
  simp only [f__law_queue, c__law_queue, startE, List.map_cons, List.map_nil, List.length_cons, List.length_nil, Nat.reduceAdd, Nat.reduceSub, List.replicate, List.cons_append, List.nil_append]
  obtain ⟨v, k1, h1, v1, v2, hk1⟩ := draw_ok (W := W) (n := n + 1) (tl := tl) hk (by omega) (m := 21) (by omega)
  have g1 := hw.k1
  have g2 := hw.k2
  rw [exs_nx (e' := [some (.loc 0), some (wD w), some (.int 21), some (.int ((w.look : Int) + v)), none]) (M' := dC k1 :: tl) (by simp only [runB, outR, exs, ex, ev, evs, evo, evi, t_nm, t_tp, t_nil, t_cons, startE, List.map_cons, List.map_nil, List.length_cons, List.length_nil, Nat.reduceAdd, Nat.reduceSub, Nat.sub_self, List.replicate, List.append_nil, List.cons_append, List.nil_append, List.getElem?_cons_zero, List.getElem?_cons_succ, List.set_cons_zero, List.set_cons_succ, Option.bind_some, Option.map_some, Option.bind_none, Option.map_none, asB_bl, if_true, if_false, Bool.false_eq_true, Bool.true_eq_false, o_add, o_sub, c_lt, c_le, c_gt, c_ge, c_is, c_isnt, isNon, c_eqi, c_nei, i_tup, i_lst, i_scr, i_sdc, s_tup, s_lst, b_lenT, b_lenL, b_tupL, b_tupT, b_sum, b_all, b_max, b_int, b_intB, b_abs, sr_tup, sr_lst, at0, at1, at2, at3, at4, at5, partI, wipeE, eq_self, decide_true, decide_false, Bool.and_true, Bool.true_and, Bool.and_false, Bool.false_and, Bool.or_false, Bool.false_or, Bool.or_true, Bool.true_or, if_and, if_or, z_src, z_len, z_tail, z_front, z_at0, z_last, z_one, wkt0, wkl0, wkm0, wkt1, wkl1, wkm1, wkt2, wkl2, wkm2, wkt3, wkl3, wkm3, wkt4, wkl4, wkm4, wkt5, wkl5, wkm5, wkt6, wkl6, wkm6, wkt7, wkl7, wkm7, wkt8, wkl8, wkm8, w5, h1])]
  have key : ∃ (acc : List D) (M' : Mem), lcN (.fix (rngI 0 ((w.look : Int) + v))) (bindT (.nm 4)) (fun _ M => some (true, M)) (fun e M => ev W (evalFn W defs (n + 2)) (.call 11 [(.var 0), (.idx (.var 1) (.lit (.int (2))))]) e M) [some (.loc 0), some (wD w), some (.int 21), some (.int ((w.look : Int) + v)), none] W 0 [] (dC k1 :: tl) = some (acc, M') ∧
      (∃ (zs : List Int) (k' : Dk), acc = zs.map .int ∧ zs.length = (rngI 0 ((w.look : Int) + v)).length ∧ M' = dC k' :: tl ∧ (∀ z ∈ zs, z ∈ w.sizes) ∧ k'.Ok (c + 1 + (rngI 0 ((w.look : Int) + v)).length)) ∧ acc.length ≤ (rngI 0 ((w.look : Int) + v)).length := by
    refine lcN_st (fun i acc M => ∃ (zs : List Int) (k' : Dk), acc = zs.map .int ∧ zs.length = i ∧ M = dC k' :: tl ∧ (∀ z ∈ zs, z ∈ w.sizes) ∧ k'.Ok (c + 1 + i)) ⟨[], k1, rfl, rfl, rfl, by simp, hk1⟩ (fun i acc M d hd hl hP => ?_) (line_ge (by rw [rngI_len]; omega)) (by rw [rngI_len]; omega)
    obtain ⟨zs, k', rfl, hln, rfl, hz, hk'⟩ := hP
    obtain ⟨rfl, hlt⟩ := rngI_at hd
    obtain ⟨z, k2, h1, h2, h4⟩ := one_okT (W := W) (n := n) (tl := tl) hk' (by omega) hw.s0 (by have := hw.s1; omega)
    refine ⟨_, rfl, true, dC k' :: tl, rfl, fun h => (by cases h), fun _ => ⟨.int z, dC k2 :: tl, ?_, zs ++ [z], k2, by simp, by simp [hln], rfl, ?_, h4⟩⟩
    · simp only [runB, outR, exs, ex, ev, evs, evo, evi, t_nm, t_tp, t_nil, t_cons, startE, List.map_cons, List.map_nil, List.length_cons, List.length_nil, Nat.reduceAdd, Nat.reduceSub, Nat.sub_self, List.replicate, List.append_nil, List.cons_append, List.nil_append, List.getElem?_cons_zero, List.getElem?_cons_succ, List.set_cons_zero, List.set_cons_succ, Option.bind_some, Option.map_some, Option.bind_none, Option.map_none, asB_bl, if_true, if_false, Bool.false_eq_true, Bool.true_eq_false, o_add, o_sub, c_lt, c_le, c_gt, c_ge, c_is, c_isnt, isNon, c_eqi, c_nei, i_tup, i_lst, i_scr, i_sdc, s_tup, s_lst, b_lenT, b_lenL, b_tupL, b_tupT, b_sum, b_all, b_max, b_int, b_intB, b_abs, sr_tup, sr_lst, at0, at1, at2, at3, at4, at5, partI, wipeE, eq_self, decide_true, decide_false, Bool.and_true, Bool.true_and, Bool.and_false, Bool.false_and, Bool.or_false, Bool.false_or, Bool.or_true, Bool.true_or, if_and, if_or, z_src, z_len, z_tail, z_front, z_at0, z_last, z_one, wkt0, wkl0, wkm0, wkt1, wkl1, wkm1, wkt2, wkl2, wkm2, wkt3, wkl3, wkm3, wkt4, wkl4, wkm4, wkt5, wkl5, wkm5, wkt6, wkl6, wkm6, wkt7, wkl7, wkm7, wkt8, wkl8, wkm8, w2, h2]
    · intro y hy
      rcases List.mem_append.mp hy with hy | hy
      · exact hz y hy
      · rw [List.mem_singleton.mp hy]; exact h1
  obtain ⟨acc, M', hX, ⟨zs, k', rfl, hln, rfl, hz, hk'⟩, hl⟩ := key
  rw [rngI_len] at hl hk' hln
  have e := k_l (M := dC k' :: tl) (xs := zs.map D.int) (line_ge (by simp only [List.length_map]; omega))
  refine ⟨zs, k', ?_, ⟨by omega, by omega, hz⟩, by omega, hk'.mono (by omega)⟩
  simp only [exs, ex, ev, evi, List.getElem?_cons_succ, List.getElem?_cons_zero, Option.bind_some, Option.map_some, sm_ok (show -100000 ≤ (w.look : Int) + v ∧ (w.look : Int) + v ≤ 100000 by omega), if_true, wipeE, List.set_cons_succ, List.set_cons_zero]
  simp only [ev] at hX
  rw [hX]
  simp only [runB, outR, exs, ex, ev, evs, evo, evi, t_nm, t_tp, t_nil, t_cons, startE, List.map_cons, List.map_nil, List.length_cons, List.length_nil, Nat.reduceAdd, Nat.reduceSub, Nat.sub_self, List.replicate, List.append_nil, List.cons_append, List.nil_append, List.getElem?_cons_zero, List.getElem?_cons_succ, List.set_cons_zero, List.set_cons_succ, Option.bind_some, Option.map_some, Option.bind_none, Option.map_none, asB_bl, if_true, if_false, Bool.false_eq_true, Bool.true_eq_false, o_add, o_sub, c_lt, c_le, c_gt, c_ge, c_is, c_isnt, isNon, c_eqi, c_nei, i_tup, i_lst, i_scr, i_sdc, s_tup, s_lst, b_lenT, b_lenL, b_tupL, b_tupT, b_sum, b_all, b_max, b_int, b_intB, b_abs, sr_tup, sr_lst, at0, at1, at2, at3, at4, at5, partI, wipeE, eq_self, decide_true, decide_false, Bool.and_true, Bool.true_and, Bool.and_false, Bool.false_and, Bool.or_false, Bool.false_or, Bool.or_true, Bool.true_or, if_and, if_or, z_src, z_len, z_tail, z_front, z_at0, z_last, z_one, wkt0, wkl0, wkm0, wkt1, wkl1, wkm1, wkt2, wkl2, wkm2, wkt3, wkl3, wkm3, wkt4, wkl4, wkm4, wkt5, wkl5, wkm5, wkt6, wkl6, wkm6, wkt7, wkl7, wkm7, wkt8, wkl8, wkm8, e]
  rfl
def oP : Option Str → PyData
  | none => .none
  | some a => .str a
def eP (x : Row) : PyData := .tuple [sP x.1, oP x.2]
theorem py_oD (o : Option Str) : py (oD o) = some (oP o) := by cases o <;> rfl
theorem py_eD (x : Row) : py (eD x) = some (eP x) := by
  simp only [eD, py, pyL, py_sD, py_oD, Option.bind_some, Option.map_some, eP]
theorem py_rows (xs : List Row) : py (.tup (xs.map eD)) = some (.tuple (xs.map eP)) := by
  simp only [py, pyL_map (F := eD) (G := eP) fun x _ => py_eD x, Option.map_some]
theorem lf_rows (xs : List Row) : lf (.tup (xs.map eD)) = true := by rw [lf]; exact lfL_map fun x _ => lf_eD x
structure RwOk (w : Wh) (x : Row) : Prop where
  s : SdOk w x.1
  a : x.2 = none ∨ x.2 = some BOARD ∨ x.2 = some TURN
theorem run_mem {w : Wh} {r : List Ln} {q : List Int} (hw : w.Ok) (hr : ROk r) (hq : ∀ x ∈ q, x ∈ w.sizes) : ∀ (f : Nat) (s : Sd) (seen : Nat), SdOk w s → seen ≤ q.length → ∀ x ∈ runZ w r q f s seen, RwOk w x
  | 0, _, _, _, _, x, hx => by simp [runZ] at hx
  | f + 1, s, seen, hs, hl, x, hx => by
    simp only [runZ, List.mem_cons] at hx
    rcases hx with rfl | hx
    · refine ⟨hs, ?_⟩
      rcases deed_cases (w := w) (s := s) hr with hd | ⟨hd, hm⟩ | ⟨hd, hm⟩
      · exact .inl hd
      · exact .inr (.inl hd)
      · exact .inr (.inr hd)
    · rcases deed_cases (w := w) (s := s) hr with hd | ⟨hd, hm⟩ | ⟨hd, hm⟩
      · rw [hd] at hx; simp at hx
      · rw [hd] at hx
        simp only [if_pos True.intro] at hx
        split at hx
        · simp at hx
        · rename_i hne
          have hlt : seen < q.length := by omega
          exact run_mem hw hr hq f _ _ (after_board hw hs hm (hw.s2 _ (hq _ (getD_mem hlt)))) hlt x hx
      · rw [hd] at hx
        simp only [if_neg (of_decide_eq_false tB)] at hx
        exact run_mem hw hr hq f _ _ (after_turn hw hs hm) hl x hx
theorem run_len {w : Wh} {r : List Ln} {q : List Int} : ∀ (f : Nat) (s : Sd) (seen : Nat), (runZ w r q f s seen).length ≤ f
  | 0, _, _ => by simp [runZ]
  | f + 1, s, seen => by
    simp only [runZ, List.length_cons]
    split
    · simp
    · split
      · split
        · simp
        · have := run_len (w := w) (r := r) (q := q) f (afterZ s BOARD (q.getD seen 0)) (seen + 1); omega
      · have := run_len (w := w) (r := r) (q := q) f (afterZ s TURN 0) seen; omega
theorem run_prefix {w : Wh} {r : List Ln} {q : List Int} {z : Int} (hw : w.Ok) (hr : ROk r) (hq : ∀ x ∈ q, x ∈ w.sizes) : ∀ (f f' : Nat) (s : Sd) (seen : Nat), SdOk w s → seen ≤ q.length → mu' w q s seen < f → mu' w (q ++ [z]) s seen < f' →
    ∃ rest, runZ w r (q ++ [z]) f' s seen = runZ w r q f s seen ++ rest ∧ ∃ init x, runZ w r q f s seen = init ++ [x] ∧ (x.2 = none → rest = [])
  | 0, _, _, _, _, _, h, _ => by omega
  | _ + 1, 0, _, _, _, _, _, h => by omega
  | f + 1, f' + 1, s, seen, hs, hl, h1, h2 => by
    simp only [runZ]
    rcases deed_cases (w := w) (s := s) hr with hd | ⟨hd, hm⟩ | ⟨hd, hm⟩
    · rw [hd]
      exact ⟨[], rfl, [], _, rfl, fun _ => rfl⟩
    · rw [hd]
      simp only [if_pos True.intro]
      by_cases he : seen = q.length
      · rw [if_pos he]
        exact ⟨_, rfl, [], _, rfl, fun h => by cases h⟩
      · have hlt : seen < q.length := by omega
        have hg : (q ++ [z]).getD seen 0 = q.getD seen 0 := by
          simp [List.getD, List.getElem?_append_left hlt]
        rw [if_neg he, if_neg (by simp; omega), hg]
        have m1 := mu_board (w := w) (q := q) (s := s) (z := q.getD seen 0) hw hlt
        have m2 := mu_board (w := w) (q := q ++ [z]) (s := s) (seen := seen) (z := q.getD seen 0) hw (by simp; omega)
        obtain ⟨rest, e, init, x, e2, e3⟩ := run_prefix (z := z) hw hr hq f f' (afterZ s BOARD (q.getD seen 0)) (seen + 1) (after_board hw hs hm (hw.s2 _ (hq _ (getD_mem hlt)))) hlt (by omega) (by omega)
        exact ⟨rest, by rw [e]; rfl, _ :: init, x, by rw [e2]; rfl, e3⟩
    · rw [hd]
      simp only [if_neg (of_decide_eq_false tB)]
      have m1 := mu_turn (w := w) (q := q) (s := s) (seen := seen) hw hs hm
      have m2 := mu_turn (w := w) (q := q ++ [z]) (s := s) (seen := seen) hw hs hm
      obtain ⟨rest, e, init, x, e2, e3⟩ := run_prefix (z := z) hw hr hq f f' (afterZ s TURN 0) seen (after_turn hw hs hm) hl (by omega) (by omega)
      exact ⟨rest, by rw [e]; rfl, _ :: init, x, by rw [e2]; rfl, e3⟩
theorem rp_sP {w : Wh} {s : Sd} (hw : w.Ok) (h : SdOk w s) : Rp 33 2 (sP s) := by
  have h1 := h.n1
  have h2 := h.n2
  have h3 := hw.n2
  have h4 := hw.k2
  have h5 := hw.r2
  have h6 := hw.p2
  have h7 := h.k1
  have h8 := h.k2
  refine (rp_tup (m := 10) (n := 1) (k := 3) (ps := [.tuple (s.loads.map .int), .tuple (s.line.map .int), .int s.k]) (fun p hp => ?_) (by simp)).mono (by omega) (by omega)
  simp only [List.mem_cons, List.not_mem_nil, or_false] at hp
  rcases hp with rfl | rfl | rfl
  · refine rp_tZ (fun z hz => ?_) (by omega)
    have := h.b1 z hz
    omega
  · refine rp_tZ (fun z hz => ?_) (by omega)
    have := h.b2 z hz
    omega
  · exact (rp_int (by omega)).mono (by omega) (by omega)
theorem szB : BOARD.cps.size ≤ 10 := by decide +kernel
theorem szT : TURN.cps.size ≤ 10 := by decide +kernel
theorem rp_eP {w : Wh} {x : Row} (hw : w.Ok) (h : RwOk w x) : Rp 68 3 (eP x) := by
  refine (rp_tup (m := 33) (n := 2) (k := 2) (ps := [sP x.1, oP x.2]) (fun p hp => ?_) (by simp)).mono (by omega) (by omega)
  simp only [List.mem_cons, List.not_mem_nil, or_false] at hp
  rcases hp with rfl | rfl
  · exact rp_sP hw h.s
  · rcases h.a with e | e | e <;> rw [e]
    · exact rp_non.mono (by omega) (by omega)
    · exact (rp_str okB szB).mono (by omega) (by omega)
    · exact (rp_str okT szT).mono (by omega) (by omega)
theorem rp_rows {w : Wh} {xs : List Row} (hw : w.Ok) (h : ∀ x ∈ xs, RwOk w x) (hl : xs.length ≤ 200) : Rp 13800 4 (.tuple (xs.map eP)) := by
  refine (rp_tup (m := 68) (n := 3) (k := 200) (fun p hp => ?_) (by simpa using hl)).mono (by omega) (by omega)
  obtain ⟨x, hx, rfl⟩ := List.mem_map.mp hp
  exact rp_eP hw (h x hx)
theorem gd_rows {w : Wh} {xs : List Row} (hw : w.Ok) (h : ∀ x ∈ xs, RwOk w x) : gd' 4 (.tuple (xs.map eP)) := gd_tup fun p hp => by
  obtain ⟨x, hx, rfl⟩ := List.mem_map.mp hp
  exact (rp_eP hw (h x hx)).g
def tP (t : Tst) : PyData := .tuple [.str t.1, .int t.2.1, .int t.2.2]
def lP (l : Ln) : PyData := .tuple [.tuple (l.1.map tP), .str l.2]
def rP (r : List Ln) : PyData := .tuple (r.map lP)
def wP (w : Wh) : PyData := .tuple [.tuple (w.ws.map .int), .int w.room, .tuple (w.sizes.map .int), .tuple [.int w.lo, .int w.hi], .int w.pat, .int (w.look : Int)]
theorem py_tD (t : Tst) : py (tD t) = some (tP t) := rfl
theorem py_lD (l : Ln) : py (lD l) = some (lP l) := by
  simp only [lD, py, pyL, pyL_map (F := tD) (G := tP) fun t _ => py_tD t, Option.bind_some, Option.map_some, lP]
theorem py_rD (r : List Ln) : py (rD r) = some (rP r) := by
  simp only [rD, py, pyL_map (F := lD) (G := lP) fun l _ => py_lD l, Option.map_some, rP]
theorem py_wD (w : Wh) : py (wD w) = some (wP w) := by
  simp only [wD, py, pyL, py_tZ, Option.bind_some, Option.map_some, wP]
theorem szW {x : Str} (h : x ∈ whats) : x.cps.size ≤ 10 := by
  simp only [List.mem_cons, List.not_mem_nil, or_false] at h
  rcases h with rfl | rfl | rfl | rfl | rfl <;> decide +kernel
theorem rp_tP {t : Tst} (h : TOk t) : Rp 33 1 (tP t) := by
  have h1 := h.b1
  have h2 := h.b2
  refine (rp_tup (m := 10) (n := 0) (k := 3) (ps := [.str t.1, .int t.2.1, .int t.2.2]) (fun p hp => ?_) (by simp)).mono (by omega) (by omega)
  simp only [List.mem_cons, List.not_mem_nil, or_false] at hp
  rcases hp with rfl | rfl | rfl
  · exact rp_str (okW h.w) (szW h.w)
  · exact (rp_int (by omega)).mono (by omega) (by omega)
  · exact (rp_int (by omega)).mono (by omega) (by omega)
theorem rp_lP {l : Ln} (h : LOk l) : Rp 682 3 (lP l) := by
  refine (rp_tup (m := 340) (n := 2) (k := 2) (ps := [.tuple (l.1.map tP), .str l.2]) (fun p hp => ?_) (by simp)).mono (by omega) (by omega)
  simp only [List.mem_cons, List.not_mem_nil, or_false] at hp
  rcases hp with rfl | rfl
  · refine (rp_tup (m := 33) (n := 1) (k := 10) (fun p hp => ?_) (by have := h.n; simpa using this)).mono (by omega) (by omega)
    obtain ⟨t, ht, rfl⟩ := List.mem_map.mp hp
    exact rp_tP (h.t t ht)
  · rcases h.a with e | e <;> rw [e]
    · exact (rp_str okB szB).mono (by omega) (by omega)
    · exact (rp_str okT szT).mono (by omega) (by omega)
theorem rp_rP {r : List Ln} (h : ROk r) : Rp 6830 4 (rP r) := by
  refine (rp_tup (m := 682) (n := 3) (k := 10) (fun p hp => ?_) (by have := h.n; simpa using this)).mono (by omega) (by omega)
  obtain ⟨l, hl, rfl⟩ := List.mem_map.mp hp
  exact rp_lP (h.l l hl)
theorem rp_wP {w : Wh} (h : w.Ok) : Rp 66 2 (wP w) := by
  have h1 := h.n2
  have h2 := h.s1
  have h3 := h.r1
  have h4 := h.r2
  have h5 := h.p1
  have h6 := h.p2
  have h7 := h.k2
  have h8 := h.h1
  have h9 := h.h2
  have h10 := h.h3
  have h11 := h.h4
  refine (rp_tup (m := 10) (n := 1) (k := 6) (ps := [.tuple (w.ws.map .int), .int w.room, .tuple (w.sizes.map .int), .tuple [.int w.lo, .int w.hi], .int w.pat, .int (w.look : Int)]) (fun p hp => ?_) (by simp)).mono (by omega) (by omega)
  simp only [List.mem_cons, List.not_mem_nil, or_false] at hp
  rcases hp with rfl | rfl | rfl | rfl | rfl | rfl
  · refine rp_tZ (fun z hz => ?_) (by omega)
    have := h.b z hz
    omega
  · exact (rp_int (by omega)).mono (by omega) (by omega)
  · refine rp_tZ (fun z hz => ?_) (by omega)
    have := h.s2 z hz
    omega
  · have := rp_tZ (zs := [w.lo, w.hi]) (k := 10) (fun z hz => by
      simp only [List.mem_cons, List.not_mem_nil, or_false] at hz
      omega) (by simp)
    exact this
  · exact (rp_int (by omega)).mono (by omega) (by omega)
  · exact (rp_int (by omega)).mono (by omega) (by omega)
theorem rp_three {w : Wh} {r : List Ln} {q : List Int} (hw : w.Ok) (hr : ROk r) (hq : QOk w q) (hl : q.length ≤ 100) : Rp 21000 5 (.list [wP w, rP r, .tuple (q.map .int)]) := by
  refine (rp_lst (m := 6830) (n := 4) (k := 3) (fun p hp => ?_) (by simp)).mono (by omega) (by omega)
  simp only [List.mem_cons, List.not_mem_nil, or_false] at hp
  rcases hp with rfl | rfl | rfl
  · exact (rp_wP hw).mono (by omega) (by omega)
  · exact rp_rP hr
  · refine (rp_tZ (k := 100) (fun z hz => ?_) hl).mono (by omega) (by omega)
    have := hw.s2 z (hq.b z hz)
    omega
end
end K37
set_option Elab.async false
set_option linter.all false
set_option maxRecDepth 100000
set_option maxHeartbeats 2000000
namespace K37
open PySem PySem.Spec PyProof.Rows L2 Wf
section
variable {W : Nat}
theorem deck_ok {n : Nat} {ns : List Int} (hl : ns.length ≤ 63) : ∃ k : Dk, evalFn W defs (n + 1) 9 [.scr (ns.map .int)] [] = some (.loc 0, [dC k]) ∧ k.Ok 0 := by
  refine ⟨⟨ns, 0, 0, 0⟩, ?_, ⟨hl, Int.le_refl _, Int.le_refl _, by simp⟩⟩
  rw [call_own (f := f__law_deck) rfl rfl rfl]
  have hc : Wf.cutD (ns.map D.int) none (some 63) = ns.map D.int := by
    unfold Wf.cutD
    rw [HT.sIx_none, show HT.sIx (ns.map D.int).length (ns.map D.int).length (some 63) = min 63 (ns.map D.int).length from HT.sIx_nat _ _ 63]
    simp only [List.drop_zero, Nat.sub_zero, List.length_map]
    rw [Nat.min_eq_right hl]
    exact List.take_of_length_le (by simp)
  have e := k_l (M := []) (xs := ns.map D.int) (line_ge (by simp; omega))
  simp only [runB, outR, exs, ex, ev, evs, evo, evi, t_nm, t_tp, t_nil, t_cons, startE, List.map_cons, List.map_nil, List.length_cons, List.length_nil, Nat.reduceAdd, Nat.reduceSub, Nat.sub_self, List.replicate, List.append_nil, List.cons_append, List.nil_append, List.getElem?_cons_zero, List.getElem?_cons_succ, List.set_cons_zero, List.set_cons_succ, Option.bind_some, Option.map_some, Option.bind_none, Option.map_none, asB_bl, if_true, if_false, Bool.false_eq_true, Bool.true_eq_false, o_add, o_sub, c_lt, c_le, c_gt, c_ge, c_is, c_isnt, isNon, c_eqi, c_nei, i_tup, i_lst, i_scr, i_sdc, s_tup, s_lst, b_lenT, b_lenL, b_tupL, b_tupT, b_sum, b_all, b_max, b_int, b_intB, b_abs, sr_tup, sr_lst, at0, at1, at2, at3, at4, at5, partI, wipeE, eq_self, decide_true, decide_false, Bool.and_true, Bool.true_and, Bool.and_false, Bool.false_and, Bool.or_false, Bool.false_or, Bool.or_true, Bool.true_or, if_and, if_or, z_src, z_len, z_tail, z_front, z_at0, z_last, z_one, wkt0, wkl0, wkm0, wkt1, wkl1, wkm1, wkt2, wkl2, wkm2, wkt3, wkl3, wkm3, wkt4, wkl4, wkm4, wkt5, wkl5, wkm5, wkt6, wkl6, wkm6, wkt7, wkl7, wkm7, wkt8, wkl8, wkm8, f__law_deck, c__law_deck, s_scr, hc, e, b_list (line_ge (show (ns.map D.int).length ≤ 100000 by simp; omega))]
  rfl
theorem mu_small {w : Wh} {q : List Int} (hw : w.Ok) (hl : q.length ≤ w.look + 21) : mu' w q (start w q) w.look < 200 := by
  unfold mu' start
  have h1 := hw.p1
  have h2 := hw.p2
  have h3 : (q.length - w.look) * (w.pat.toNat + 1) ≤ 21 * 7 := Nat.mul_le_mul (by omega) (by omega)
  simp only [Int.sub_zero]
  omega
abbrev bodyI : List Sm := [(.asg (.tp [(.nm 5), (.nm 6)]) (.tup [(.call 17 [(.var 1), (.var 3)]), (.call 20 [(.var 1), (.var 3), (.lit (.int (21)))])])),
  (.asg (.tp [(.nm 7), (.nm 8)]) (.tup [(.bi .repr (.lst false [(.var 3), (.var 5), (.var 6)])), (.call 8 [(.var 3), (.var 5), (.var 6)])])),
  (.ifs (.cmp .ne (.bi .repr (.var 8)) (.bi .repr (.bi .tuple (.call 19 [(.var 3), (.var 5), (.var 6)])))) [(.ret (.lit (.bl false)))] []),
  (.asg (.nm 9) (.call 8 [(.var 3), (.var 5), (.bin .add false (.var 6) (.tup [(.call 11 [(.var 1), (.idx (.var 3) (.lit (.int (2))))])]))])),
  (.ifs (.or (.cmp .ne (.slc false (.var 9) none (some (.bi .len (.var 8)))) (.var 8)) (.and (.cmp .is (.idx (.idx (.var 8) (.neg (.lit (.int (1))))) (.lit (.int (1)))) (.lit .non)) (.cmp .ne (.var 9) (.var 8)))) [(.ret (.lit (.bl false)))] []),
  (.ifs (.cmp .ne (.bi .repr (.lst false [(.var 3), (.var 5), (.var 6)])) (.var 7)) [(.ret (.lit (.bl false)))] [])]
theorem sOk_any (x : Str) : opCmp .ne (.str x) (.str x) M = some false := by
  rw [c_nes', decide_eq_true rfl]; rfl
theorem inner_ok {c : Nat} {k : Dk} {tl : Mem} {w : Wh} {x0 x2 x4 x5 x6 x7 x8 x9 : Option D} (hW : 50000 < W) (hw : w.Ok) (hk : k.Ok c) (hc : c < 40000) :
    ∃ (y5 y6 y7 y8 y9 : Option D) (k' : Dk) (tl' : Mem), exs W (evalFn W defs 7) bodyI [x0, some (.loc 0), x2, some (wD w), x4, x5, x6, x7, x8, x9] (dC k :: tl) = some (.nx, [x0, some (.loc 0), x2, some (wD w), x4, y5, y6, y7, y8, y9], dC k' :: tl') ∧ k'.Ok (c + 100) := by
  obtain ⟨r, k1, tl1, h1, hr, hk1⟩ := rule_ok (W := W) (n := 4) (tl := tl) (w := w) hW hk (by omega)
  obtain ⟨q, k2, h2, hq, hql, hk2⟩ := queue_ok (W := W) (n := 4) (tl := tl1) (w := w) hW hw hk1 (by omega)
  have h1' : evalFn W defs 7 17 [.loc 0, wD w] (dC k :: tl) = some (rD r, dC k1 :: tl1) := h1
  have h2' : evalFn W defs 7 20 [.loc 0, wD w, .int 21] (dC k1 :: tl1) = some (tZ q, dC k2 :: tl1) := h2
  have hlk := hw.k2
  rw [exs_nx (e' := [x0, some (.loc 0), x2, some (wD w), x4, some (rD r), some (tZ q), x7, x8, x9]) (M' := dC k2 :: tl1) (by simp only [runB, outR, exs, ex, ev, evs, evo, evi, t_nm, t_tp, t_nil, t_cons, startE, List.map_cons, List.map_nil, List.length_cons, List.length_nil, Nat.reduceAdd, Nat.reduceSub, Nat.sub_self, List.replicate, List.append_nil, List.cons_append, List.nil_append, List.getElem?_cons_zero, List.getElem?_cons_succ, List.set_cons_zero, List.set_cons_succ, Option.bind_some, Option.map_some, Option.bind_none, Option.map_none, asB_bl, if_true, if_false, Bool.false_eq_true, Bool.true_eq_false, o_add, o_sub, c_lt, c_le, c_gt, c_ge, c_is, c_isnt, isNon, c_eqi, c_nei, i_tup, i_lst, i_scr, i_sdc, s_tup, s_lst, b_lenT, b_lenL, b_tupL, b_tupT, b_sum, b_all, b_max, b_int, b_intB, b_abs, sr_tup, sr_lst, at0, at1, at2, at3, at4, at5, partI, wipeE, eq_self, decide_true, decide_false, Bool.and_true, Bool.true_and, Bool.and_false, Bool.false_and, Bool.or_false, Bool.false_or, Bool.or_true, Bool.true_or, if_and, if_or, z_src, z_len, z_tail, z_front, z_at0, z_last, z_one, wkt0, wkl0, wkm0, wkt1, wkl1, wkm1, wkt2, wkl2, wkm2, wkt3, wkl3, wkm3, wkt4, wkl4, wkm4, wkt5, wkl5, wkm5, wkt6, wkl6, wkm6, wkt7, wkl7, wkm7, wkt8, wkl8, wkm8, h1', h2'])]
  have hmu := mu_small hw (q := q) (by omega)
  have hrun : ∀ M, evalFn W defs 7 8 [wD w, rD r, tZ q] M = some (.tup ((runZ w r q 200 (start w q) w.look).map eD), M) := fun M => run_ok (n := 2) hW hw hr hq hmu (by omega)
  have hrun2 : ∀ M, evalFn W defs 7 19 [wD w, rD r, tZ q] M = some (.lst ((runZ w r q 200 (start w q) w.look).map eD), M) := fun M => law_run_ok (n := 2) hW hw hr hq hmu (by omega)
  have hmem := run_mem hw hr hq.b 200 (start w q) w.look (start_ok' hw hq) hq.l
  have hlen := run_len (w := w) (r := r) (q := q) 200 (start w q) w.look
  have hrep3 : ∀ M, opBi .repr (.lst [wD w, rD r, tZ q]) M = some (.str (PyData.shown (.list [wP w, rP r, .tuple (q.map .int)])), M) := fun M =>
    b_repr (by simp [lf, lfL]) (by simp only [py, pyL, py_wD, py_rD, py_tZ, Option.bind_some, Option.map_some]) (rp_three hw hr hq (by omega)) (by omega) (by omega)
  have hrepr : ∀ M, opBi .repr (.tup ((runZ w r q 200 (start w q) w.look).map eD)) M = some (.str (PyData.shown (.tuple ((runZ w r q 200 (start w q) w.look).map eP))), M) := fun M =>
    b_repr (lf_rows _) (py_rows _) (rp_rows hw hmem hlen) (by omega) (by omega)
  rw [exs_nx (e' := [x0, some (.loc 0), x2, some (wD w), x4, some (rD r), some (tZ q), some (.str (PyData.shown (.list [wP w, rP r, .tuple (q.map .int)]))), some (.tup ((runZ w r q 200 (start w q) w.look).map eD)), x9]) (M' := dC k2 :: tl1) (by simp only [runB, outR, exs, ex, ev, evs, evo, evi, t_nm, t_tp, t_nil, t_cons, startE, List.map_cons, List.map_nil, List.length_cons, List.length_nil, Nat.reduceAdd, Nat.reduceSub, Nat.sub_self, List.replicate, List.append_nil, List.cons_append, List.nil_append, List.getElem?_cons_zero, List.getElem?_cons_succ, List.set_cons_zero, List.set_cons_succ, Option.bind_some, Option.map_some, Option.bind_none, Option.map_none, asB_bl, if_true, if_false, Bool.false_eq_true, Bool.true_eq_false, o_add, o_sub, c_lt, c_le, c_gt, c_ge, c_is, c_isnt, isNon, c_eqi, c_nei, i_tup, i_lst, i_scr, i_sdc, s_tup, s_lst, b_lenT, b_lenL, b_tupL, b_tupT, b_sum, b_all, b_max, b_int, b_intB, b_abs, sr_tup, sr_lst, at0, at1, at2, at3, at4, at5, partI, wipeE, eq_self, decide_true, decide_false, Bool.and_true, Bool.true_and, Bool.and_false, Bool.false_and, Bool.or_false, Bool.false_or, Bool.or_true, Bool.true_or, if_and, if_or, z_src, z_len, z_tail, z_front, z_at0, z_last, z_one, wkt0, wkl0, wkm0, wkt1, wkl1, wkm1, wkt2, wkl2, wkm2, wkt3, wkl3, wkm3, wkt4, wkl4, wkm4, wkt5, wkl5, wkm5, wkt6, wkl6, wkm6, wkt7, wkl7, wkm7, wkt8, wkl8, wkm8, hrep3, hrun])]
  rw [exs_nx (e' := [x0, some (.loc 0), x2, some (wD w), x4, some (rD r), some (tZ q), some (.str (PyData.shown (.list [wP w, rP r, .tuple (q.map .int)]))), some (.tup ((runZ w r q 200 (start w q) w.look).map eD)), x9]) (M' := dC k2 :: tl1) (by simp only [runB, outR, exs, ex, ev, evs, evo, evi, t_nm, t_tp, t_nil, t_cons, startE, List.map_cons, List.map_nil, List.length_cons, List.length_nil, Nat.reduceAdd, Nat.reduceSub, Nat.sub_self, List.replicate, List.append_nil, List.cons_append, List.nil_append, List.getElem?_cons_zero, List.getElem?_cons_succ, List.set_cons_zero, List.set_cons_succ, Option.bind_some, Option.map_some, Option.bind_none, Option.map_none, asB_bl, if_true, if_false, Bool.false_eq_true, Bool.true_eq_false, o_add, o_sub, c_lt, c_le, c_gt, c_ge, c_is, c_isnt, isNon, c_eqi, c_nei, i_tup, i_lst, i_scr, i_sdc, s_tup, s_lst, b_lenT, b_lenL, b_tupL, b_tupT, b_sum, b_all, b_max, b_int, b_intB, b_abs, sr_tup, sr_lst, at0, at1, at2, at3, at4, at5, partI, wipeE, eq_self, decide_true, decide_false, Bool.and_true, Bool.true_and, Bool.and_false, Bool.false_and, Bool.or_false, Bool.false_or, Bool.or_true, Bool.true_or, if_and, if_or, z_src, z_len, z_tail, z_front, z_at0, z_last, z_one, wkt0, wkl0, wkm0, wkt1, wkl1, wkm1, wkt2, wkl2, wkm2, wkt3, wkl3, wkm3, wkt4, wkl4, wkm4, wkt5, wkl5, wkm5, wkt6, wkl6, wkm6, wkt7, wkl7, wkm7, wkt8, wkl8, wkm8, hrepr, hrun2, sOk_any])]
  -- a size more
  obtain ⟨z, k3, hz, h3, hk3⟩ := one_okT (W := W) (n := 5) (tl := tl1) hk2 (by omega) hw.s0 (by have := hw.s1; omega)
  have h3' : evalFn W defs 7 11 [.loc 0, tZ w.sizes] (dC k2 :: tl1) = some (.int z, dC k3 :: tl1) := h3
  have hq2 : QOk w (q ++ [z]) := ⟨by have := hq.l; simp; omega, by have := hq.n; simp; omega, fun y hy => by
    rcases List.mem_append.mp hy with hy | hy
    · exact hq.b y hy
    · rw [List.mem_singleton.mp hy]; exact hz⟩
  have hst : start w (q ++ [z]) = start w q := by
    unfold start
    rw [List.take_append_of_le_length hq.l]
  have hmu2 := mu_small hw (q := q ++ [z]) (by simp; omega)
  have hrun3 : ∀ M, evalFn W defs 7 8 [wD w, rD r, tZ (q ++ [z])] M = some (.tup ((runZ w r (q ++ [z]) 200 (start w (q ++ [z])) w.look).map eD), M) := fun M => run_ok (n := 2) hW hw hr hq2 hmu2 (by omega)
  have hmem2 := run_mem hw hr hq2.b 200 (start w (q ++ [z])) w.look (start_ok' hw hq2) hq2.l
  rw [hst] at hrun3 hmem2 hmu2
  have hadd : ∀ M, opBin .add false (tZ q) (tZ [z]) M = some (tZ (q ++ [z]), M) := fun M => z_add (by have := hq.n; simp; exact line_ge (by omega))
  obtain ⟨rest, hpre, init, x, hin, hlast⟩ := run_prefix (z := z) hw hr hq.b 200 200 (start w q) w.look (start_ok' hw hq) hq.l hmu hmu2
  generalize hA : runZ w r q 200 (start w q) w.look = A at hrun hrun2 hmem hlen hrepr hpre hin ⊢
  generalize hB : runZ w r (q ++ [z]) 200 (start w q) w.look = B at hrun3 hmem2 hpre
  rw [exs_nx (e' := [x0, some (.loc 0), x2, some (wD w), x4, some (rD r), some (tZ q), some (.str (PyData.shown (.list [wP w, rP r, .tuple (q.map .int)]))), some (.tup (A.map eD)), some (.tup (B.map eD))]) (M' := dC k3 :: tl1) (by simp only [runB, outR, exs, ex, ev, evs, evo, evi, t_nm, t_tp, t_nil, t_cons, startE, List.map_cons, List.map_nil, List.length_cons, List.length_nil, Nat.reduceAdd, Nat.reduceSub, Nat.sub_self, List.replicate, List.append_nil, List.cons_append, List.nil_append, List.getElem?_cons_zero, List.getElem?_cons_succ, List.set_cons_zero, List.set_cons_succ, Option.bind_some, Option.map_some, Option.bind_none, Option.map_none, asB_bl, if_true, if_false, Bool.false_eq_true, Bool.true_eq_false, o_add, o_sub, c_lt, c_le, c_gt, c_ge, c_is, c_isnt, isNon, c_eqi, c_nei, i_tup, i_lst, i_scr, i_sdc, s_tup, s_lst, b_lenT, b_lenL, b_tupL, b_tupT, b_sum, b_all, b_max, b_int, b_intB, b_abs, sr_tup, sr_lst, at0, at1, at2, at3, at4, at5, partI, wipeE, eq_self, decide_true, decide_false, Bool.and_true, Bool.true_and, Bool.and_false, Bool.false_and, Bool.or_false, Bool.false_or, Bool.or_true, Bool.true_or, if_and, if_or, z_src, z_len, z_tail, z_front, z_at0, z_last, z_one, wkt0, wkl0, wkm0, wkt1, wkl1, wkm1, wkt2, wkl2, wkm2, wkt3, wkl3, wkm3, wkt4, wkl4, wkm4, wkt5, wkl5, wkm5, wkt6, wkl6, wkm6, wkt7, wkl7, wkm7, wkt8, wkl8, wkm8, w2, h3', hadd, hrun3])]
  have hcut : Wf.cutD (B.map eD) none (some ((A.map eD).length : Int)) = A.map eD := by
    rw [cut_to (by rw [hpre]; simp), hpre, List.map_append]
    exact List.take_left' rfl
  have hne1 : opCmp .ne (.tup (A.map eD)) (.tup (A.map eD)) (dC k3 :: tl1) = some false := by
    rw [cmp_ne (lf_rows _) (lf_rows _) (py_rows _) (py_rows _) (gd_rows hw hmem) (gd_rows hw hmem) (by omega) (by omega), eqv_self (gd_rows hw hmem)]
    rfl
  have hne2 : opCmp .ne (.tup (B.map eD)) (.tup (A.map eD)) (dC k3 :: tl1) = some (!PyData.eqv (.tuple (B.map eP)) (.tuple (A.map eP))) := cmp_ne (lf_rows _) (lf_rows _) (py_rows _) (py_rows _) (gd_rows hw hmem2) (gd_rows hw hmem) (by omega) (by omega)
  have hi1 : opIdx (.tup (A.map eD)) (.int (-1)) (dC k3 :: tl1) = some (eD x) := by
    rw [hin, List.map_append]
    exact atI_end
  have hi2 : opIdx (eD x) (.int 1) (dC k3 :: tl1) = some (oD x.2) := at1
  have hfin : (isNon (oD x.2) && !PyData.eqv (.tuple (B.map eP)) (.tuple (A.map eP))) = false := by
    cases hx2 : x.2 with
    | none =>
      have := hlast hx2
      rw [hpre, this, List.append_nil, eqv_self (gd_rows hw hmem)]
      rfl
    | some a => rfl
  rw [exs_nx (e' := [x0, some (.loc 0), x2, some (wD w), x4, some (rD r), some (tZ q), some (.str (PyData.shown (.list [wP w, rP r, .tuple (q.map .int)]))), some (.tup (A.map eD)), some (.tup (B.map eD))]) (M' := dC k3 :: tl1) (by
    simp only [ex, ev, evo, List.getElem?_cons_succ, List.getElem?_cons_zero, Option.bind_some, Option.map_some, b_lenT, partI, s_tup, hcut, hne1, hi1, hi2, c_is, hne2, asB_bl, if_and, if_or, Bool.false_or, hfin, Bool.false_eq_true, if_false, exs])]
  rw [exs_nx (e' := [x0, some (.loc 0), x2, some (wD w), x4, some (rD r), some (tZ q), some (.str (PyData.shown (.list [wP w, rP r, .tuple (q.map .int)]))), some (.tup (A.map eD)), some (.tup (B.map eD))]) (M' := dC k3 :: tl1) (by simp only [runB, outR, exs, ex, ev, evs, evo, evi, t_nm, t_tp, t_nil, t_cons, startE, List.map_cons, List.map_nil, List.length_cons, List.length_nil, Nat.reduceAdd, Nat.reduceSub, Nat.sub_self, List.replicate, List.append_nil, List.cons_append, List.nil_append, List.getElem?_cons_zero, List.getElem?_cons_succ, List.set_cons_zero, List.set_cons_succ, Option.bind_some, Option.map_some, Option.bind_none, Option.map_none, asB_bl, if_true, if_false, Bool.false_eq_true, Bool.true_eq_false, o_add, o_sub, c_lt, c_le, c_gt, c_ge, c_is, c_isnt, isNon, c_eqi, c_nei, i_tup, i_lst, i_scr, i_sdc, s_tup, s_lst, b_lenT, b_lenL, b_tupL, b_tupT, b_sum, b_all, b_max, b_int, b_intB, b_abs, sr_tup, sr_lst, at0, at1, at2, at3, at4, at5, partI, wipeE, eq_self, decide_true, decide_false, Bool.and_true, Bool.true_and, Bool.and_false, Bool.false_and, Bool.or_false, Bool.false_or, Bool.or_true, Bool.true_or, if_and, if_or, z_src, z_len, z_tail, z_front, z_at0, z_last, z_one, wkt0, wkl0, wkm0, wkt1, wkl1, wkm1, wkt2, wkl2, wkm2, wkt3, wkl3, wkm3, wkt4, wkl4, wkm4, wkt5, wkl5, wkm5, wkt6, wkl6, wkm6, wkt7, wkl7, wkm7, wkt8, wkl8, wkm8, hrep3, sOk_any])]
  exact ⟨_, _, _, _, _, k3, tl1, exs_nil, hk3.mono (by omega)⟩
def w00 : Wh := ⟨[0, 0], 1, [1], 0, 0, 1, 1⟩
theorem w00_ok : w00.Ok := by
  refine ⟨by decide, by decide, fun x hx => ?_, by decide, by decide, by decide, by decide, fun x hx => ?_, by decide, by decide, by decide, by decide, by decide, by decide, by decide, by decide⟩
  · simp [w00] at hx; omega
  · simp [w00] at hx; omega
def r00 : List Ln := [([(Str.ofString "load", 0, 0)], BOARD), ([], TURN)]
theorem r00_ok : ROk r00 := by
  refine ⟨by decide, fun l hl => ?_⟩
  simp only [r00, List.mem_cons, List.not_mem_nil, or_false] at hl
  rcases hl with rfl | rfl
  · refine ⟨.inl rfl, by simp, fun t ht => ?_⟩
    rw [List.mem_singleton.mp ht]
    exact ⟨by simp, by simp, by simp⟩
  · exact ⟨.inr rfl, by simp, by simp⟩
def depth : Nat := 7
def fuel : Nat := 100000
theorem law_ok (hW : 50000 < W) {ns : List Int} (hns : ns.length ≤ 63) : ∃ M', evalFn W defs 8 21 [.scr (ns.map .int)] [] = some (.bl true, M') := by
  rw [call_own (f := f_law) rfl rfl rfl, runB]
  simp only [f_law, c_law, startE, List.map_cons, List.map_nil, List.length_cons, List.length_nil, Nat.reduceAdd, Nat.reduceSub, List.replicate, List.cons_append, List.nil_append]
  obtain ⟨k, h1, hk⟩ := deck_ok (W := W) (n := 6) hns
  have h1' : evalFn W defs 7 9 [.scr (ns.map .int)] [] = some (.loc 0, [dC k]) := h1
  rw [exs_nx (e' := [some (.scr (ns.map .int)), some (.loc 0), none, none, none, none, none, none, none, none]) (M' := [dC k]) (by simp only [runB, outR, exs, ex, ev, evs, evo, evi, t_nm, t_tp, t_nil, t_cons, startE, List.map_cons, List.map_nil, List.length_cons, List.length_nil, Nat.reduceAdd, Nat.reduceSub, Nat.sub_self, List.replicate, List.append_nil, List.cons_append, List.nil_append, List.getElem?_cons_zero, List.getElem?_cons_succ, List.set_cons_zero, List.set_cons_succ, Option.bind_some, Option.map_some, Option.bind_none, Option.map_none, asB_bl, if_true, if_false, Bool.false_eq_true, Bool.true_eq_false, o_add, o_sub, c_lt, c_le, c_gt, c_ge, c_is, c_isnt, isNon, c_eqi, c_nei, i_tup, i_lst, i_scr, i_sdc, s_tup, s_lst, b_lenT, b_lenL, b_tupL, b_tupT, b_sum, b_all, b_max, b_int, b_intB, b_abs, sr_tup, sr_lst, at0, at1, at2, at3, at4, at5, partI, wipeE, eq_self, decide_true, decide_false, Bool.and_true, Bool.true_and, Bool.and_false, Bool.false_and, Bool.or_false, Bool.false_or, Bool.or_true, Bool.true_or, if_and, if_or, z_src, z_len, z_tail, z_front, z_at0, z_last, z_one, wkt0, wkl0, wkm0, wkt1, wkl1, wkm1, wkt2, wkl2, wkm2, wkt3, wkl3, wkm3, wkt4, wkl4, wkm4, wkt5, wkl5, wkm5, wkt6, wkl6, wkm6, wkt7, wkl7, wkm7, wkt8, wkl8, wkm8, h1'])]
  have loop : ∃ e2 M2, ex W (evalFn W defs 7) (.fr (.nm 2) (.rng1 (.lit (.int (6)))) [(.asg (.nm 3) (.call 13 [(.var 1), (.lit (.int (1000)))])), (.fr (.nm 4) (.rng1 (.lit (.int (3)))) bodyI)]) [some (.scr (ns.map .int)), some (.loc 0), none, none, none, none, none, none, none, none] [dC k] = some (.nx, e2, M2) ∧
      ∃ (x2 x3 x4 x5 x6 x7 x8 x9 : Option D) (k' : Dk) (tl : Mem), e2 = [some (.scr (ns.map .int)), some (.loc 0), x2, x3, x4, x5, x6, x7, x8, x9] ∧ M2 = dC k' :: tl ∧ k'.Ok (500 * (rngI 0 6).length) := by
    refine ex_fr_nx (fun i e M => ∃ (x2 x3 x4 x5 x6 x7 x8 x9 : Option D) (k' : Dk) (tl : Mem), e = [some (.scr (ns.map .int)), some (.loc 0), x2, x3, x4, x5, x6, x7, x8, x9] ∧ M = dC k' :: tl ∧ k'.Ok (500 * i)) (M1 := [dC k]) (by simp only [evi, ev, Option.bind_some, sm_ok (show -100000 ≤ (6 : Int) ∧ (6 : Int) ≤ 100000 by omega), if_true]) ⟨none, none, none, none, none, none, none, none, k, [], rfl, rfl, hk⟩ (fun i e M d hd hP => ?_) (by rw [rngI_len]; omega)
    obtain ⟨x2, x3, x4, x5, x6, x7, x8, x9, k', tl, rfl, rfl, hk'⟩ := hP
    obtain ⟨rfl, hlt⟩ := rngI_at hd
    refine ⟨_, rfl, ?_⟩
    obtain ⟨w, k2, h2, hw, hk2⟩ := wheel_ok (W := W) (n := 4) (tl := tl) (most := 1000) hW hk' (by omega)
    have h2' : evalFn W defs 7 13 [.loc 0, .int 1000] (dC k' :: tl) = some (wD w, dC k2 :: tl) := h2
    rw [exs_nx (e' := [some (.scr (ns.map .int)), some (.loc 0), some (.int (0 + (i : Int))), some (wD w), x4, x5, x6, x7, x8, x9]) (M' := dC k2 :: tl) (by simp only [runB, outR, exs, ex, ev, evs, evo, evi, t_nm, t_tp, t_nil, t_cons, startE, List.map_cons, List.map_nil, List.length_cons, List.length_nil, Nat.reduceAdd, Nat.reduceSub, Nat.sub_self, List.replicate, List.append_nil, List.cons_append, List.nil_append, List.getElem?_cons_zero, List.getElem?_cons_succ, List.set_cons_zero, List.set_cons_succ, Option.bind_some, Option.map_some, Option.bind_none, Option.map_none, asB_bl, if_true, if_false, Bool.false_eq_true, Bool.true_eq_false, o_add, o_sub, c_lt, c_le, c_gt, c_ge, c_is, c_isnt, isNon, c_eqi, c_nei, i_tup, i_lst, i_scr, i_sdc, s_tup, s_lst, b_lenT, b_lenL, b_tupL, b_tupT, b_sum, b_all, b_max, b_int, b_intB, b_abs, sr_tup, sr_lst, at0, at1, at2, at3, at4, at5, partI, wipeE, eq_self, decide_true, decide_false, Bool.and_true, Bool.true_and, Bool.and_false, Bool.false_and, Bool.or_false, Bool.false_or, Bool.or_true, Bool.true_or, if_and, if_or, z_src, z_len, z_tail, z_front, z_at0, z_last, z_one, wkt0, wkl0, wkm0, wkt1, wkl1, wkm1, wkt2, wkl2, wkm2, wkt3, wkl3, wkm3, wkt4, wkl4, wkm4, wkt5, wkl5, wkm5, wkt6, wkl6, wkm6, wkt7, wkl7, wkm7, wkt8, wkl8, wkm8, h2'])]
    have inner : ∃ e2 M2, ex W (evalFn W defs 7) (.fr (.nm 4) (.rng1 (.lit (.int (3)))) bodyI) [some (.scr (ns.map .int)), some (.loc 0), some (.int (0 + (i : Int))), some (wD w), x4, x5, x6, x7, x8, x9] (dC k2 :: tl) = some (.nx, e2, M2) ∧
        ∃ (x4 x5 x6 x7 x8 x9 : Option D) (k' : Dk) (tl : Mem), e2 = [some (.scr (ns.map .int)), some (.loc 0), some (.int (0 + (i : Int))), some (wD w), x4, x5, x6, x7, x8, x9] ∧ M2 = dC k' :: tl ∧ k'.Ok (500 * i + 40 + 100 * (rngI 0 3).length) := by
      refine ex_fr_nx (fun j e M => ∃ (x4 x5 x6 x7 x8 x9 : Option D) (k' : Dk) (tl : Mem), e = [some (.scr (ns.map .int)), some (.loc 0), some (.int (0 + (i : Int))), some (wD w), x4, x5, x6, x7, x8, x9] ∧ M = dC k' :: tl ∧ k'.Ok (500 * i + 40 + 100 * j)) (M1 := dC k2 :: tl) (by simp only [evi, ev, Option.bind_some, sm_ok (show -100000 ≤ (3 : Int) ∧ (3 : Int) ≤ 100000 by omega), if_true]) ⟨x4, x5, x6, x7, x8, x9, k2, tl, rfl, rfl, hk2⟩ (fun j e M d hd hP => ?_) (by rw [rngI_len]; omega)
      obtain ⟨x4, x5, x6, x7, x8, x9, k3, tl3, rfl, rfl, hk3⟩ := hP
      obtain ⟨rfl, hlt2⟩ := rngI_at hd
      refine ⟨_, rfl, ?_⟩
      obtain ⟨y5, y6, y7, y8, y9, k4, tl4, hb, hk4⟩ := inner_ok (W := W) (x0 := some (.scr (ns.map .int))) (x2 := some (.int (0 + (i : Int)))) (x4 := some (.int (0 + (j : Int)))) (x5 := x5) (x6 := x6) (x7 := x7) (x8 := x8) (x9 := x9) (tl := tl3) hW hw hk3 (by omega)
      exact ⟨_, _, hb, _, _, _, _, _, _, k4, tl4, rfl, rfl, hk4.mono (by omega)⟩
    obtain ⟨e2, M2, hin, y4, y5, y6, y7, y8, y9, k4, tl4, rfl, rfl, hk4⟩ := inner
    rw [exs_nx hin]
    exact ⟨_, _, exs_nil, _, _, _, _, _, _, _, _, k4, tl4, rfl, rfl, hk4.mono (by rw [rngI_len]; simp; omega)⟩
  obtain ⟨e2, M2, hlp, x2, x3, x4, x5, x6, x7, x8, x9, k2, tl, rfl, rfl, hk2⟩ := loop
  rw [exs_nx hlp]
  rw [rngI_len] at hk2
  rw [exs_nx (e' := [some (.scr (ns.map .int)), some (.loc 0), x2, some (wD w00), x4, some (rD r00), x6, x7, x8, x9]) (M' := dC k2 :: tl) (by simp only [runB, outR, exs, ex, ev, evs, evo, evi, t_nm, t_tp, t_nil, t_cons, startE, List.map_cons, List.map_nil, List.length_cons, List.length_nil, Nat.reduceAdd, Nat.reduceSub, Nat.sub_self, List.replicate, List.append_nil, List.cons_append, List.nil_append, List.getElem?_cons_zero, List.getElem?_cons_succ, List.set_cons_zero, List.set_cons_succ, Option.bind_some, Option.map_some, Option.bind_none, Option.map_none, asB_bl, if_true, if_false, Bool.false_eq_true, Bool.true_eq_false, o_add, o_sub, c_lt, c_le, c_gt, c_ge, c_is, c_isnt, isNon, c_eqi, c_nei, i_tup, i_lst, i_scr, i_sdc, s_tup, s_lst, b_lenT, b_lenL, b_tupL, b_tupT, b_sum, b_all, b_max, b_int, b_intB, b_abs, sr_tup, sr_lst, at0, at1, at2, at3, at4, at5, partI, wipeE, eq_self, decide_true, decide_false, Bool.and_true, Bool.true_and, Bool.and_false, Bool.false_and, Bool.or_false, Bool.false_or, Bool.or_true, Bool.true_or, if_and, if_or, z_src, z_len, z_tail, z_front, z_at0, z_last, z_one, wkt0, wkl0, wkm0, wkt1, wkl1, wkm1, wkt2, wkl2, wkm2, wkt3, wkl3, wkm3, wkt4, wkl4, wkm4, wkt5, wkl5, wkm5, wkt6, wkl6, wkm6, wkt7, wkl7, wkm7, wkt8, wkl8, wkm8]; rfl)]
  obtain ⟨v, k3, h3, v1, v2, hk3⟩ := draw_ok (W := W) (n := 6) (tl := tl) hk2 (by omega) (m := 500) (by omega)
  have h3' : evalFn W defs 7 10 [.loc 0, .int 500] (dC k2 :: tl) = some (.int v, dC k3 :: tl) := h3
  obtain ⟨j, rfl⟩ := Int.eq_ofNat_of_zero_le v1
  have hrep : ∀ M, opBin .mul false (tZ [1]) (.int (1500 + (j : Int))) M = some (tZ (List.replicate (1500 + j) 1), M) := fun M => by
    have := rep_ok (M := M) (m := false) (k := 1500 + j) (by omega) (by omega) (z := 1)
    rw [← this]
    congr 2
  rw [exs_nx (e' := [some (.scr (ns.map .int)), some (.loc 0), x2, some (wD w00), x4, some (rD r00), some (tZ (List.replicate (1500 + j) 1)), x7, x8, x9]) (M' := dC k3 :: tl) (by simp only [runB, outR, exs, ex, ev, evs, evo, evi, t_nm, t_tp, t_nil, t_cons, startE, List.map_cons, List.map_nil, List.length_cons, List.length_nil, Nat.reduceAdd, Nat.reduceSub, Nat.sub_self, List.replicate, List.append_nil, List.cons_append, List.nil_append, List.getElem?_cons_zero, List.getElem?_cons_succ, List.set_cons_zero, List.set_cons_succ, Option.bind_some, Option.map_some, Option.bind_none, Option.map_none, asB_bl, if_true, if_false, Bool.false_eq_true, Bool.true_eq_false, o_add, o_sub, c_lt, c_le, c_gt, c_ge, c_is, c_isnt, isNon, c_eqi, c_nei, i_tup, i_lst, i_scr, i_sdc, s_tup, s_lst, b_lenT, b_lenL, b_tupL, b_tupT, b_sum, b_all, b_max, b_int, b_intB, b_abs, sr_tup, sr_lst, at0, at1, at2, at3, at4, at5, partI, wipeE, eq_self, decide_true, decide_false, Bool.and_true, Bool.true_and, Bool.and_false, Bool.false_and, Bool.or_false, Bool.false_or, Bool.or_true, Bool.true_or, if_and, if_or, z_src, z_len, z_tail, z_front, z_at0, z_last, z_one, wkt0, wkl0, wkm0, wkt1, wkl1, wkm1, wkt2, wkl2, wkm2, wkt3, wkl3, wkm3, wkt4, wkl4, wkm4, wkt5, wkl5, wkm5, wkt6, wkl6, wkm6, wkt7, wkl7, wkm7, wkt8, wkl8, wkm8, h3', hrep])]
  have hq : QOk w00 (List.replicate (1500 + j) 1) := ⟨by show 1 ≤ _; simp; omega, by simp; omega, fun x hx => by rw [List.eq_of_mem_replicate hx]; simp [w00]⟩
  have hmu : mu' w00 (List.replicate (1500 + j) 1) (start w00 (List.replicate (1500 + j) 1)) w00.look < 5000 := by
    unfold mu' start
    have e1 : w00.pat.toNat + 1 = 2 := by decide
    have e2 : w00.look = 1 := rfl
    have e3 : w00.pat = 1 := rfl
    rw [e1, e2, e3, List.length_replicate]
    simp only [Int.sub_zero]
    omega
  have hrun : ∀ M, evalFn W defs 7 8 [wD w00, rD r00, tZ (List.replicate (1500 + j) 1)] M = some (.tup ((runZ w00 r00 (List.replicate (1500 + j) 1) 5000 (start w00 (List.replicate (1500 + j) 1)) w00.look).map eD), M) := fun M => run_ok (n := 2) hW w00_ok r00_ok hq hmu (by omega)
  have hrun2 : ∀ M, evalFn W defs 7 19 [wD w00, rD r00, tZ (List.replicate (1500 + j) 1)] M = some (.lst ((runZ w00 r00 (List.replicate (1500 + j) 1) 5000 (start w00 (List.replicate (1500 + j) 1)) w00.look).map eD), M) := fun M => law_run_ok (n := 2) hW w00_ok r00_ok hq hmu (by omega)
  have hmem := run_mem w00_ok r00_ok hq.b 5000 (start w00 (List.replicate (1500 + j) 1)) w00.look (start_ok' w00_ok hq) hq.l
  generalize runZ w00 r00 (List.replicate (1500 + j) 1) 5000 (start w00 (List.replicate (1500 + j) 1)) w00.look = A at hrun hrun2 hmem
  have heq : opCmp .eq (.tup (A.map eD)) (.tup (A.map eD)) (dC k3 :: tl) = some true := by
    rw [cmp_eq (lf_rows _) (lf_rows _) (py_rows _) (py_rows _) (gd_rows w00_ok hmem) (gd_rows w00_ok hmem) (by omega) (by omega), eqv_self (gd_rows w00_ok hmem)]
  refine ⟨dC k3 :: tl, ?_⟩
  simp only [runB, outR, exs, ex, ev, evs, evo, evi, t_nm, t_tp, t_nil, t_cons, startE, List.map_cons, List.map_nil, List.length_cons, List.length_nil, Nat.reduceAdd, Nat.reduceSub, Nat.sub_self, List.replicate, List.append_nil, List.cons_append, List.nil_append, List.getElem?_cons_zero, List.getElem?_cons_succ, List.set_cons_zero, List.set_cons_succ, Option.bind_some, Option.map_some, Option.bind_none, Option.map_none, asB_bl, if_true, if_false, Bool.false_eq_true, Bool.true_eq_false, o_add, o_sub, c_lt, c_le, c_gt, c_ge, c_is, c_isnt, isNon, c_eqi, c_nei, i_tup, i_lst, i_scr, i_sdc, s_tup, s_lst, b_lenT, b_lenL, b_tupL, b_tupT, b_sum, b_all, b_max, b_int, b_intB, b_abs, sr_tup, sr_lst, at0, at1, at2, at3, at4, at5, partI, wipeE, eq_self, decide_true, decide_false, Bool.and_true, Bool.true_and, Bool.and_false, Bool.false_and, Bool.or_false, Bool.false_or, Bool.or_true, Bool.true_or, if_and, if_or, z_src, z_len, z_tail, z_front, z_at0, z_last, z_one, wkt0, wkl0, wkm0, wkt1, wkl1, wkm1, wkt2, wkl2, wkm2, wkt3, wkl3, wkm3, wkt4, wkl4, wkm4, wkt5, wkl5, wkm5, wkt6, wkl6, wkm6, wkt7, wkl7, wkm7, wkt8, wkl8, wkm8, hrun, hrun2, heq]
end
theorem main : ∀ ns : List Int, ns.length ≤ 63 → ∃ M', evalFn fuel defs (depth + 1) 21 [.scr (ns.map .int)] [] = some (.bl true, M') := fun ns h => law_ok (by unfold fuel; omega) h
end K37
set_option Elab.async false
set_option linter.all false
set_option maxRecDepth 100000
open PySem PySem.W PyProof.Rows
set_option maxHeartbeats 0 in
theorem PySem.Challenge.cw_wheelfill_k37_rules_gone_through_holds : PySem.Challenge.rw_wheelfill_k37_rules_gone_through.Holds := by
  w_on; o_law; k_head; (case hw => w_witness2)
  k_fill
  refine Wf.law_walk (l := PySem.Challenge.rw_wheelfill_k37_rules_gone_through) (n := 63) (k := 2 * K37.depth + 1) (x := "_law_script") (m := Wf.evalFn K37.fuel K37.defs (K37.depth + 1) 21) (ca := fun _ _ => 0) (dk := fun _ _ _ => False) rfl (by decide) rfl ⟨rfl, by decide, by decide⟩ (fun w h Y => PySem.W.kIn_of Y) ?F K37.main
  case F =>
    intro w mg fa h KX G hmg
    refine' K37.all_mk KX G hmg ?a_lean ?l_lean ?c_lean ?k_lean ?a_is_upright ?l_is_upright ?c_is_upright ?k_is_upright ?a_boarded_loads ?l_boarded_loads ?c_boarded_loads ?k_boarded_loads ?a_turned_loads ?l_turned_loads ?c_turned_loads ?k_turned_loads ?a_may ?l_may ?c_may ?k_may ?a_after ?l_after ?c_after ?k_after ?a_numbers_of ?l_numbers_of ?c_numbers_of ?k_numbers_of ?a_deed ?l_deed ?c_deed ?k_deed ?a_run ?l_run ?c_run ?k_run ?a__law_deck ?l__law_deck ?c__law_deck ?k__law_deck ?a__law_draw ?l__law_draw ?c__law_draw ?k__law_draw ?a__law_one ?l__law_one ?c__law_one ?k__law_one ?a__law_count ?l__law_count ?c__law_count ?k__law_count ?a__law_wheel ?l__law_wheel ?c__law_wheel ?k__law_wheel ?a__law_lean ?l__law_lean ?c__law_lean ?k__law_lean ?a__law_fits ?l__law_fits ?c__law_fits ?k__law_fits ?a__law_behind ?l__law_behind ?c__law_behind ?k__law_behind ?a__law_rule ?l__law_rule ?c__law_rule ?k__law_rule ?a__law_deed_of ?l__law_deed_of ?c__law_deed_of ?k__law_deed_of ?a__law_run ?l__law_run ?c__law_run ?k__law_run ?a__law_queue ?l__law_queue ?c__law_queue ?k__law_queue ?a_law ?l_law ?c_law ?k_law ?b_BOARD ?z_len ?z_sum ?z_tuple ?z_list ?z_int ?z_abs ?z_min ?z_max ?z_all ?z_any ?z_repr ?z_str ?z_range ?z_zip ?z_enumerate
    (case a_lean => k_is); (case l_lean => k_is); (case c_lean => k_is); (case k_lean => k_is); (case a_is_upright => k_is); (case l_is_upright => k_is); (case c_is_upright => k_is); (case k_is_upright => k_is); (case a_boarded_loads => k_is); (case l_boarded_loads => k_is); (case c_boarded_loads => k_is); (case k_boarded_loads => k_is); (case a_turned_loads => k_is); (case l_turned_loads => k_is); (case c_turned_loads => k_is); (case k_turned_loads => k_is); (case a_may => k_is); (case l_may => k_is); (case c_may => k_is); (case k_may => k_is); (case a_after => k_is); (case l_after => k_is); (case c_after => k_is); (case k_after => k_is); (case a_numbers_of => k_is); (case l_numbers_of => k_is); (case c_numbers_of => k_is); (case k_numbers_of => k_is); (case a_deed => k_is); (case l_deed => k_is); (case c_deed => k_is); (case k_deed => k_is); (case a_run => k_is); (case l_run => k_is); (case c_run => k_is); (case k_run => k_is); (case a__law_deck => k_is); (case l__law_deck => k_is); (case c__law_deck => k_is); (case k__law_deck => k_is); (case a__law_draw => k_is); (case l__law_draw => k_is); (case c__law_draw => k_is); (case k__law_draw => k_is); (case a__law_one => k_is); (case l__law_one => k_is); (case c__law_one => k_is); (case k__law_one => k_is); (case a__law_count => k_is); (case l__law_count => k_is); (case c__law_count => k_is); (case k__law_count => k_is); (case a__law_wheel => k_is); (case l__law_wheel => k_is); (case c__law_wheel => k_is); (case k__law_wheel => k_is); (case a__law_lean => k_is); (case l__law_lean => k_is); (case c__law_lean => k_is); (case k__law_lean => k_is); (case a__law_fits => k_is); (case l__law_fits => k_is); (case c__law_fits => k_is); (case k__law_fits => k_is); (case a__law_behind => k_is); (case l__law_behind => k_is); (case c__law_behind => k_is); (case k__law_behind => k_is); (case a__law_rule => k_is); (case l__law_rule => k_is); (case c__law_rule => k_is); (case k__law_rule => k_is); (case a__law_deed_of => k_is); (case l__law_deed_of => k_is); (case c__law_deed_of => k_is); (case k__law_deed_of => k_is); (case a__law_run => k_is); (case l__law_run => k_is); (case c__law_run => k_is); (case k__law_run => k_is); (case a__law_queue => k_is); (case l__law_queue => k_is); (case c__law_queue => k_is); (case k__law_queue => k_is); (case a_law => k_is); (case l_law => k_is); (case c_law => k_is); (case k_law => k_is); (case b_BOARD => k_is); (case z_len => k_is); (case z_sum => k_is); (case z_tuple => k_is); (case z_list => k_is); (case z_int => k_is); (case z_abs => k_is); (case z_min => k_is); (case z_max => k_is); (case z_all => k_is); (case z_any => k_is); (case z_repr => k_is); (case z_str => k_is); (case z_range => k_is); (case z_zip => k_is); (case z_enumerate => k_is)
