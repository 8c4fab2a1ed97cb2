import PyProof.Rows.All
import Wide.All
import OpenK.AllK
import Wide.FinOn
import HandS.ForMost
import HandS.Walk
import HandS.Codes
import HandS.NoneIn
import HandS.TupAny
import HandS.Property
import HandS.IsInst
import HandS.Style
import HandS.Conv
import HandS.Strs
import HandS.Zip
import HandS.Defaults
import HandS.EndBits
import HandS.Star
import HandS.Deep
import HandS.SortInts
import HandS.Text
import KE.DataFind
import KE.GoesEnum
import HandS.Head0
import HandS.Head1
import HandS.Head2
import HandS.HeadEnd
import HandS.HeadHook4
import HandS.RaiseMore
import HandS.SetFor
import PySem.Challenge.RW_rankedrules_k15_whole_needless_rows_and
set_option Elab.async false
set_option linter.all false
set_option maxRecDepth 100000
set_option maxHeartbeats 4000000
/-! DE0: data, what represents them in the abstract heap, the state of a def's body as data. -/
namespace DE
open PySem PySem.Spec PyProof.Rows L2

/-- data: han n a cell of the store; bor i the list that slot i owns (read, not kept); brw a list lent by the caller; fn a def or class of the module -/
inductive D where
  | non | bl (b : Bool) | int (i : Int) | str (s : List Nat) | lst (xs : List D) | tup (xs : List D)
  | ins (c : Nat) (fs : List (Nat × D)) | han (n : Nat) | bor (i : Nat) | brw (xs : List D) | fn (g : Nat)

/-- what the words mean here: the written part, the classes by number, the names of attributes by number, defs by number -/
structure Wd where
  K : PySem.W.Frag
  cls : Nat → Option Addr
  nm : Nat → Str
  nn : Nat
  fns : Nat → Option Addr

/-- a list that will not change -/
def KL (K : PySem.W.Frag) (a : Addr) (xs : List V) : Prop := ∃ (its : Array Value) (n : Nat), K.lookup a = some { cls := .type "list", dict := none, data := .seq its n, slots := #[] } ∧ its.size ≤ sizeLine ∧ Vals xs its.toList
theorem KL.sq {K : PySem.W.Frag} {H : Hp} {a : Addr} {xs : List V} (h : KL K a xs) : SqL K H a xs := by
  obtain ⟨its, n, h1, h2, h3⟩ := h
  exact .inr ⟨_, its, n, h1, rfl, rfl, rfl, h2, h3⟩
/-- a list that can be read -/
def LsR (K : PySem.W.Frag) (H : Hp) (a : Addr) (xs : List V) : Prop := Rd H a (.lst xs) ∨ KL K a xs
theorem LsR.sq {K : PySem.W.Frag} {H : Hp} {a : Addr} {xs : List V} (h : LsR K H a xs) : SqL K H a xs := h.elim .inl KL.sq
theorem LsR.of {K : PySem.W.Frag} {H : Hp} {a : Addr} {xs : List V} (h : H a = some (.lst xs)) : LsR K H a xs := .inl (.inl h)
def Fz (K : PySem.W.Frag) (H : Hp) (a : Addr) (xs : List V) : Prop := (∃ o, H a = some (.frz o (.lst xs))) ∨ KL K a xs
theorem Fz.sq {K : PySem.W.Frag} {H : Hp} {a : Addr} {xs : List V} (h : Fz K H a xs) : SqL K H a xs := h.elim (fun h => .inl (.inr h)) KL.sq
theorem Fz.ls {K : PySem.W.Frag} {H : Hp} {a : Addr} {xs : List V} (h : Fz K H a xs) : LsR K H a xs := h.elim (fun h => .inl (.inr h)) .inr
/-- no lent list (at the top) -/
def D.plain : D → Bool
  | .brw _ => false
  | .bor _ => false
  | _ => true

mutual
def Rep (W : Wd) (ι : List Addr) (H : Hp) : D → V → Prop
  | .non, v => v = .non
  | .bl b, v => v = .bl b
  | .int i, v => v = .int i
  | .str s, v => v = .str (SX.S s) ∧ s.length ≤ sizeLine
  | .lst ds, v => ds.length ≤ sizeLine ∧ ∃ a xs, v = .ref a ∧ Fz W.K H a xs ∧ RepL W ι H ds xs
  | .tup ds, v => ds.length ≤ sizeLine ∧ ∃ a xs, v = .ref a ∧ SqT W.K H a xs ∧ RepL W ι H ds xs
  | .ins c fs, v => ∃ a C dx fvs, v = .ref a ∧ W.cls c = some C ∧ H a = some (.ins C dx fvs) ∧ a ∉ ι ∧ Cls W.K C ∧ RepF W ι H C fs fvs
  | .han n, v => ∃ a, ι[n]? = some a ∧ v = .ref a
  | .bor _, _ => False
  | .brw ds, v => ds.length ≤ sizeLine ∧ ∃ a xs, v = .ref a ∧ H a = some (.lst xs) ∧ a ∉ ι ∧ RepL W ι H ds xs
  | .fn g, v => ∃ a, W.fns g = some a ∧ v = .ref a
def RepL (W : Wd) (ι : List Addr) (H : Hp) : List D → List V → Prop
  | [], vs => vs = []
  | d :: ds, vs => ∃ v r, vs = v :: r ∧ d.plain = true ∧ Rep W ι H d v ∧ RepL W ι H ds r
def RepF (W : Wd) (ι : List Addr) (H : Hp) (C : Addr) : List (Nat × D) → List (Str × V) → Prop
  | [], vs => vs = []
  | (k, d) :: ds, vs => ∃ v r, vs = (W.nm k, v) :: r ∧ k < W.nn ∧ NoAttr W.K C (W.nm k) ∧ d.plain = true ∧ Rep W ι H d v ∧ RepF W ι H C ds r
end

/-- a thing that never changes -/
def fzn : HO → Bool
  | .frz _ _ => true
  | .tup _ => true
  | _ => false
/-- what stands between two heaps: no lasting thing is lost -/
structure Kp (ι : List Addr) (H : Hp) (ι' : List Addr) (H' : Hp) : Prop where
  pre : ι <+: ι'
  new : ∀ a ∈ ι', a ∉ ι → ∀ C dx fs, H a ≠ some (.ins C dx fs)
  fz : ∀ b o, H b = some o → fzn o = true → H' b = some o
  ins : ∀ b C dx fs, H b = some (.ins C dx fs) → b ∉ ι → H' b = some (.ins C dx fs)
  th : ∀ b, H' b = none → H b = none
theorem Kp.refl {ι : List Addr} {H : Hp} : Kp ι H ι H := ⟨List.prefix_refl _, fun _ h n => absurd h n, fun _ _ e _ => e, fun _ _ _ _ e _ => e, fun _ e => e⟩
theorem Kp.mem {ι : List Addr} {H : Hp} {ι' : List Addr} {H' : Hp} (k : Kp ι H ι' H') {b C dx : Addr} {fs : List (Str × V)} (e : H b = some (.ins C dx fs)) (n : b ∉ ι) : b ∉ ι' := fun h => k.new b h n C dx fs e
theorem Kp.trans {ι ι1 ι2 : List Addr} {H H1 H2 : Hp} (a : Kp ι H ι1 H1) (b : Kp ι1 H1 ι2 H2) : Kp ι H ι2 H2 :=
  ⟨a.pre.trans b.pre, fun x h n => by
    by_cases hx : x ∈ ι1
    · exact a.new x hx n
    · exact fun C dx fs e => b.new x h hx C dx fs (a.ins x C dx fs e n), fun x o e s => b.fz x o (a.fz x o e s) s, fun x C dx fs e n => b.ins x C dx fs (a.ins x C dx fs e n) (a.mem e n), fun x e => a.th x (b.th x e)⟩
theorem pre_get {α : Type} {l l' : List α} (h : l <+: l') {n : Nat} {a : α} (e : l[n]? = some a) : l'[n]? = some a := by
  obtain ⟨t, rfl⟩ := h
  have hn : n < l.length := (List.getElem?_eq_some_iff.mp e).1
  rw [List.getElem?_append_left hn]; exact e
theorem fz_sqT {K : PySem.W.Frag} {H H' : Hp} {a : Addr} {xs : List V} (k : ∀ b o, H b = some o → fzn o = true → H' b = some o) (h : SqT K H a xs) : SqT K H' a xs := by
  rcases h with (h | ⟨o, h⟩) | h
  · exact .inl (.inl (k _ _ h rfl))
  · exact .inl (.inr ⟨o, k _ _ h rfl⟩)
  · exact .inr h
mutual
theorem Rep.kp {W : Wd} {ι ι' : List Addr} {H H' : Hp} (k : Kp ι H ι' H') : ∀ {d : D} {v : V}, Rep W ι H d v → d.plain = true → Rep W ι' H' d v
  | .non, _, h, _ => by unfold Rep at h ⊢; exact h
  | .bl _, _, h, _ => by unfold Rep at h ⊢; exact h
  | .int _, _, h, _ => by unfold Rep at h ⊢; exact h
  | .str _, _, h, _ => by unfold Rep at h ⊢; exact h
  | .lst ds, v, h, _ => by
    unfold Rep at h ⊢
    obtain ⟨l, a, xs, e, f, r⟩ := h
    exact ⟨l, a, xs, e, f.elim (fun ⟨o, f⟩ => .inl ⟨o, k.fz a _ f rfl⟩) .inr, RepL.kp k r⟩
  | .tup ds, v, h, _ => by
    unfold Rep at h ⊢
    obtain ⟨l, a, xs, e, f, r⟩ := h
    exact ⟨l, a, xs, e, fz_sqT k.fz f, RepL.kp k r⟩
  | .ins c fs, v, h, _ => by
    unfold Rep at h ⊢
    obtain ⟨a, C, dx, fvs, e, hc, ha, n, cl, r⟩ := h
    exact ⟨a, C, dx, fvs, e, hc, k.ins a C dx fvs ha n, k.mem ha n, cl, RepF.kp k r⟩
  | .han n, v, h, _ => by
    unfold Rep at h ⊢
    obtain ⟨a, e, h⟩ := h
    exact ⟨a, pre_get k.pre e, h⟩
  | .bor _, _, h, _ => by unfold Rep at h; exact h.elim
  | .brw _, _, _, p => by cases p
  | .fn _, _, h, _ => by unfold Rep at h ⊢; exact h
theorem RepL.kp {W : Wd} {ι ι' : List Addr} {H H' : Hp} (k : Kp ι H ι' H') : ∀ {ds : List D} {vs : List V}, RepL W ι H ds vs → RepL W ι' H' ds vs
  | [], _, h => by unfold RepL at h ⊢; exact h
  | d :: ds, _, h => by
    unfold RepL at h ⊢
    obtain ⟨v, r, e, p, h1, h2⟩ := h
    exact ⟨v, r, e, p, h1.kp k p, h2.kp k⟩
theorem RepF.kp {W : Wd} {ι ι' : List Addr} {H H' : Hp} {C : Addr} (k : Kp ι H ι' H') : ∀ {ds : List (Nat × D)} {vs : List (Str × V)}, RepF W ι H C ds vs → RepF W ι' H' C ds vs
  | [], _, h => by unfold RepF at h ⊢; exact h
  | (n, d) :: ds, _, h => by
    unfold RepF at h ⊢
    obtain ⟨v, r, e, l, na, p, h1, h2⟩ := h
    exact ⟨v, r, e, l, na, p, h1.kp k p, h2.kp k⟩
end
section
variable {W : Wd} {ι : List Addr} {H : Hp}
theorem RepL.nil : RepL W ι H [] [] := by unfold RepL; rfl
theorem RepL.cons {d : D} {v : V} {ds : List D} {vs : List V} (p : d.plain = true) (h : Rep W ι H d v) (t : RepL W ι H ds vs) : RepL W ι H (d :: ds) (v :: vs) := by unfold RepL; exact ⟨v, vs, rfl, p, h, t⟩
theorem RepL.length : ∀ {ds : List D} {vs : List V}, RepL W ι H ds vs → ds.length = vs.length
  | [], _, h => by unfold RepL at h; subst h; rfl
  | d :: ds, _, h => by
    unfold RepL at h
    obtain ⟨v, r, rfl, _, _, h⟩ := h
    simp [h.length]
theorem RepL.append : ∀ {ds es : List D} {vs us : List V}, RepL W ι H ds vs → RepL W ι H es us → RepL W ι H (ds ++ es) (vs ++ us)
  | [], _, _, _, h, k => by unfold RepL at h; subst h; exact k
  | d :: ds, _, _, _, h, k => by
    unfold RepL at h
    obtain ⟨v, r, rfl, p, h1, h2⟩ := h
    exact .cons p h1 (h2.append k)
theorem RepL.get : ∀ {ds : List D} {vs : List V} {i : Nat} {d : D}, RepL W ι H ds vs → ds[i]? = some d → ∃ v, vs[i]? = some v ∧ Rep W ι H d v ∧ d.plain = true
  | [], _, _, _, _, e => by simp at e
  | d :: ds, _, 0, _, h, e => by
    unfold RepL at h
    obtain ⟨v, r, rfl, p, h1, h2⟩ := h
    simp at e; subst e
    exact ⟨v, rfl, h1, p⟩
  | d :: ds, _, i + 1, _, h, e => by
    unfold RepL at h
    obtain ⟨v, r, rfl, p, h1, h2⟩ := h
    exact h2.get (i := i) (by simpa using e)
theorem RepL.getV : ∀ {ds : List D} {vs : List V} {i : Nat} {v : V}, RepL W ι H ds vs → vs[i]? = some v → ∃ d, ds[i]? = some d ∧ Rep W ι H d v ∧ d.plain = true := fun {ds vs i v} h e => by
  have hl := h.length
  have hi : i < vs.length := (List.getElem?_eq_some_iff.mp e).1
  have e2 : ds[i]? = some (ds[i]'(by omega)) := List.getElem?_eq_getElem (by omega)
  obtain ⟨u, h1, h2, h3⟩ := h.get e2
  rw [e] at h1; cases h1
  exact ⟨_, e2, h2, h3⟩
theorem RepL.take : ∀ {ds : List D} {vs : List V} (n : Nat), RepL W ι H ds vs → RepL W ι H (ds.take n) (vs.take n)
  | [], _, n, h => by unfold RepL at h; subst h; simp; exact .nil
  | d :: ds, _, 0, h => by simp; exact .nil
  | d :: ds, _, n + 1, h => by
    unfold RepL at h
    obtain ⟨v, r, rfl, p, h1, h2⟩ := h
    simp only [List.take_succ_cons]
    exact .cons p h1 (h2.take n)
theorem RepL.drop : ∀ {ds : List D} {vs : List V} (n : Nat), RepL W ι H ds vs → RepL W ι H (ds.drop n) (vs.drop n)
  | [], _, n, h => by unfold RepL at h; subst h; simp; exact .nil
  | d :: ds, _, 0, h => by simpa using h
  | d :: ds, _, n + 1, h => by
    unfold RepL at h
    obtain ⟨v, r, rfl, p, h1, h2⟩ := h
    simp only [List.drop_succ_cons]
    exact h2.drop n
theorem RepL.set : ∀ {ds : List D} {vs : List V} {d : D} {v : V} (n : Nat), RepL W ι H ds vs → Rep W ι H d v → d.plain = true → RepL W ι H (ds.set n d) (vs.set n v)
  | [], _, _, _, n, h, _, _ => by unfold RepL at h; subst h; simp; exact .nil
  | d :: ds, _, _, _, 0, h, k, q => by
    unfold RepL at h
    obtain ⟨v, r, rfl, p, h1, h2⟩ := h
    exact .cons q k h2
  | d :: ds, _, _, _, n + 1, h, k, q => by
    unfold RepL at h
    obtain ⟨v, r, rfl, p, h1, h2⟩ := h
    exact .cons p h1 (h2.set n k q)
theorem RepL.erase : ∀ {ds : List D} {vs : List V} (n : Nat), RepL W ι H ds vs → RepL W ι H (ds.eraseIdx n) (vs.eraseIdx n)
  | [], _, n, h => by unfold RepL at h; subst h; simp; exact .nil
  | d :: ds, _, 0, h => by
    unfold RepL at h
    obtain ⟨v, r, rfl, p, h1, h2⟩ := h
    exact h2
  | d :: ds, _, n + 1, h => by
    unfold RepL at h
    obtain ⟨v, r, rfl, p, h1, h2⟩ := h
    exact .cons p h1 (h2.erase n)
theorem RepL.allp : ∀ {ds : List D} {vs : List V}, RepL W ι H ds vs → ∀ d ∈ ds, d.plain = true
  | [], _, _, _, e => by cases e
  | d :: ds, _, h, e, m => by
    unfold RepL at h
    obtain ⟨v, r, rfl, p, h1, h2⟩ := h
    rcases List.mem_cons.mp m with rfl | m
    · exact p
    · exact h2.allp e m
end

/-! ### the store, the slots -/
/-- a thing that changes: a list, an instance, a dict whose keys are tuples, one whose keys are ints and texts -/
inductive MO where
  | lst (ds : List D) | ins (c : Nat) (fs : List (Nat × D)) | dT (kvs : List (List Key × D)) | dK (kvs : List (Key × D))
def RepT (W : Wd) (ι : List Addr) (H : Hp) {κ : Type} : List (κ × D) → List (κ × V) → Prop := Paired fun p q => p.1 = q.1 ∧ p.2.plain = true ∧ Rep W ι H p.2 q.2
theorem RepT.kp {W : Wd} {ι ι' : List Addr} {H H' : Hp} {κ : Type} {a : List (κ × D)} {b : List (κ × V)} (h : RepT W ι H a b) (k : Kp ι H ι' H') : RepT W ι' H' a b :=
  Paired.mapP h fun p q z => ⟨z.1, z.2.1, z.2.2.kp k z.2.1⟩
def MRep (W : Wd) (ι : List Addr) (H : Hp) (a : Addr) : MO → Prop
  | .lst ds => ds.length ≤ sizeLine ∧ ∃ xs, H a = some (.lst xs) ∧ RepL W ι H ds xs
  | .ins c fs => ∃ C dx fvs, W.cls c = some C ∧ H a = some (.ins C dx fvs) ∧ Cls W.K C ∧ RepF W ι H C fs fvs
  | .dT kvs => kvs.length ≤ sizeLine ∧ ∃ kv, H a = some (.dT kv) ∧ RepT W ι H kvs kv
  | .dK kvs => kvs.length ≤ sizeLine ∧ ∃ kv, H a = some (.dK kv) ∧ RepT W ι H kvs kv
theorem MRep.there {W : Wd} {ι : List Addr} {H : Hp} {a : Addr} : ∀ {m : MO}, MRep W ι H a m → ∃ o, H a = some o ∧ fzn o = false
  | .lst _, h => by obtain ⟨_, xs, e, _⟩ := h; exact ⟨_, e, rfl⟩
  | .ins _ _, h => by obtain ⟨_, _, _, _, e, _⟩ := h; exact ⟨_, e, rfl⟩
  | .dT _, h => by obtain ⟨_, xs, e, _⟩ := h; exact ⟨_, e, rfl⟩
  | .dK _, h => by obtain ⟨_, xs, e, _⟩ := h; exact ⟨_, e, rfl⟩
/-- the thing at a is as it was -/
theorem MRep.kp {W : Wd} {ι ι' : List Addr} {H H' : Hp} {a : Addr} (k : Kp ι H ι' H') (e : ∀ o, H a = some o → H' a = some o) : ∀ {m : MO}, MRep W ι H a m → MRep W ι' H' a m
  | .lst _, h => by obtain ⟨l, xs, x, r⟩ := h; exact ⟨l, xs, e _ x, r.kp k⟩
  | .ins _ _, h => by obtain ⟨C, dx, fvs, c, x, cl, r⟩ := h; exact ⟨C, dx, fvs, c, e _ x, cl, r.kp k⟩
  | .dT _, h => by obtain ⟨l, xs, x, r⟩ := h; exact ⟨l, xs, e _ x, r.kp k⟩
  | .dK _, h => by obtain ⟨l, xs, x, r⟩ := h; exact ⟨l, xs, e _ x, r.kp k⟩
structure StRep (W : Wd) (ι : List Addr) (H : Hp) (S : List MO) : Prop where
  len : S.length = ι.length
  nd : ι.Nodup
  at_ : ∀ (n : Nat) (m : MO) (a : Addr), S[n]? = some m → ι[n]? = some a → MRep W ι H a m
theorem StRep.mem {W : Wd} {ι : List Addr} {H : Hp} {S : List MO} (h : StRep W ι H S) {a : Addr} (m : a ∈ ι) : ∃ o, H a = some o ∧ fzn o = false := by
  obtain ⟨n, hn, e⟩ := List.getElem_of_mem m
  have e1 : ι[n]? = some a := by rw [List.getElem?_eq_getElem hn, e]
  have hs : n < S.length := by rw [h.len]; exact hn
  exact (h.at_ n _ a (List.getElem?_eq_getElem hs) e1).there
/-- what a slot holds -/
inductive DV where
  | imm (d : D) | own (ds : List D) | brw (ds : List D) | oT (kvs : List (List Key × D)) | oK (kvs : List (Key × D))
def DV.isOwn : DV → Bool
  | .own _ => true
  | .oT _ => true
  | .oK _ => true
  | _ => false
abbrev Rho := List (Option DV)
abbrev Store := List MO
abbrev Z := Rho × Store
/-- the def's entry -/
structure Bs where
  ι : List Addr
  H : Hp
  /-- things in the making, which nobody else may change -/
  P : Hp
/-- a is new since the entry, and in no one's making -/
def Bs.fr (B : Bs) (a : Addr) : Prop := B.H a = none ∧ B.P a = none
def DRep (W : Wd) (B : Bs) (ι : List Addr) (H : Hp) (v : V) : DV → Prop
  | .imm d => d.plain = true ∧ Rep W ι H d v
  | .own ds => ds.length ≤ sizeLine ∧ ∃ a xs, v = .ref a ∧ H a = some (.lst xs) ∧ B.fr a ∧ a ∉ ι ∧ RepL W ι H ds xs
  | .oT kvs => kvs.length ≤ sizeLine ∧ ∃ a kv, v = .ref a ∧ H a = some (.dT kv) ∧ B.fr a ∧ a ∉ ι ∧ RepT W ι H kvs kv
  | .oK kvs => kvs.length ≤ sizeLine ∧ ∃ a kv, v = .ref a ∧ H a = some (.dK kv) ∧ B.fr a ∧ a ∉ ι ∧ RepT W ι H kvs kv
  | .brw ds => ds.length ≤ sizeLine ∧ ∃ a xs, v = .ref a ∧ H a = some (.lst xs) ∧ B.H a = some (.lst xs) ∧ a ∉ B.ι ∧ a ∉ ι ∧ RepL W ι H ds xs
structure ZR (W : Wd) (B : Bs) (ι : List Addr) (H : Hp) (σ : L2.St) (z : Z) : Prop where
  st : StRep W ι H z.2
  pre : B.ι <+: ι
  new : ∀ a ∈ ι, a ∉ B.ι → B.H a = none
  keep : ∀ b o, B.H b = some o → b ∉ B.ι → H b = some o
  newP : ∀ a ∈ ι, B.P a = none
  keepP : ∀ b o, B.P b = some o → H b = some o
  len : z.1.length = σ.length
  slot : ∀ (i : Nat) (dv : DV), z.1[i]? = some (some dv) → ∃ v, σ[i]? = some (some v) ∧ DRep W B ι H v dv
  dis : ∀ (i j : Nat) (dv dv' : DV) (a : Addr), z.1[i]? = some (some dv) → dv.isOwn = true → z.1[j]? = some (some dv') → dv'.isOwn = true → σ[i]? = some (some (.ref a)) → σ[j]? = some (some (.ref a)) → i = j
/-- p is new: no slot owns it, it was not there at the entry, it is no cell -/
structure Fr (B : Bs) (ι : List Addr) (σ : L2.St) (z : Z) (p : Addr) : Prop where
  b : B.fr p
  i : p ∉ ι
  o : ∀ (j : Nat) (dv : DV), z.1[j]? = some (some dv) → dv.isOwn = true → σ[j]? = some (some (.ref p)) → False
section
variable {W : Wd} {B : Bs} {ι : List Addr} {H : Hp} {σ : L2.St} {z : Z}
theorem DRep.there {v : V} {a : Addr} : ∀ {dv : DV}, DRep W B ι H v dv → dv.isOwn = true → v = .ref a → ∃ o, H a = some o ∧ fzn o = false
  | .imm _, _, h, _ => by cases h
  | .brw _, _, h, _ => by cases h
  | .own _, h, _, e => by obtain ⟨_, b, xs, e', x, _⟩ := h; rw [e] at e'; cases e'; exact ⟨_, x, rfl⟩
  | .oT _, h, _, e => by obtain ⟨_, b, xs, e', x, _⟩ := h; rw [e] at e'; cases e'; exact ⟨_, x, rfl⟩
  | .oK _, h, _, e => by obtain ⟨_, b, xs, e', x, _⟩ := h; rw [e] at e'; cases e'; exact ⟨_, x, rfl⟩
theorem Fr.of (zr : ZR W B ι H σ z) {p : Addr} (h : H p = none) : Fr B ι σ z p where
  b := by
    refine ⟨?_, ?_⟩
    case refine_2 =>
      cases e : B.P p with
      | none => rfl
      | some o =>
        have := zr.keepP p o e
        rw [h] at this; cases this
    cases e : B.H p with
    | none => rfl
    | some o =>
      by_cases hp : p ∈ B.ι
      · obtain ⟨t, ht⟩ := zr.pre
        obtain ⟨o', e', _⟩ := zr.st.mem (a := p) (by rw [← ht]; exact List.mem_append_left _ hp)
        rw [h] at e'; cases e'
      · have := zr.keep p o e hp
        rw [h] at this; cases this
  i := fun hp => by
    obtain ⟨o', e', _⟩ := zr.st.mem hp
    rw [h] at e'; cases e'
  o := fun j dv e ho hs => by
    obtain ⟨v, hv, r⟩ := zr.slot j dv e
    rw [hs] at hv; cases hv
    obtain ⟨o, e', _⟩ := r.there ho rfl
    rw [h] at e'; cases e'
/-- a new thing beside all -/
theorem Kp.alloc {p : Addr} {o : HO} (h : H p = none) : Kp ι H ι (upd H p o) :=
  ⟨List.prefix_refl _, fun _ h n => absurd h n, fun b u e _ => by rw [upd_ne (ne_of_none e h)]; exact e, fun b C dx fs e _ => by rw [upd_ne (ne_of_none e h)]; exact e, fun b e => by
    by_cases hb : b = p
    · rw [hb]; exact h
    · rw [upd_ne hb] at e; exact e⟩
theorem Kp.same {H' : Hp} (e : ∀ b o, H b = some o → H' b = some o) : Kp ι H ι H' :=
  ⟨List.prefix_refl _, fun _ h n => absurd h n, fun b u x _ => e b u x, fun b C dx fs x _ => e b _ x, fun b x => by
    cases q : H b with
    | none => rfl
    | some o => rw [e b o q] at x; cases x⟩
theorem StRep.same {S : Store} {H' : Hp} (h : StRep W ι H S) (k : Kp ι H ι H') (e : ∀ a ∈ ι, ∀ o, H a = some o → H' a = some o) : StRep W ι H' S :=
  ⟨h.len, h.nd, fun n m a e1 e2 => (h.at_ n m a e1 e2).kp k (e a (List.mem_of_getElem? e2))⟩
theorem DRep.same {H' : Hp} {v : V} (k : Kp ι H ι H') (hb : ∀ b o, H b = some o → (match o with | .lst _ => True | .dT _ => True | .dK _ => True | _ => False) → b ∉ ι → H' b = some o) : ∀ {dv : DV}, DRep W B ι H v dv → DRep W B ι H' v dv
  | .imm _, h => ⟨h.1, h.2.kp k h.1⟩
  | .own _, h => by obtain ⟨l, a, xs, e, x, b, i, r⟩ := h; exact ⟨l, a, xs, e, hb a _ x trivial i, b, i, r.kp k⟩
  | .oT _, h => by obtain ⟨l, a, xs, e, x, b, i, r⟩ := h; exact ⟨l, a, xs, e, hb a _ x trivial i, b, i, r.kp k⟩
  | .oK _, h => by obtain ⟨l, a, xs, e, x, b, i, r⟩ := h; exact ⟨l, a, xs, e, hb a _ x trivial i, b, i, r.kp k⟩
  | .brw _, h => by obtain ⟨l, a, xs, e, x, b, n, i, r⟩ := h; exact ⟨l, a, xs, e, hb a _ x trivial i, b, n, i, r.kp k⟩
/-- all that is tracked stays -/
theorem ZR.same0 {H' : Hp} (zr : ZR W B ι H σ z) (k : Kp ι H ι H') (e : ∀ b o, H b = some o → H' b = some o) : ZR W B ι H' σ z :=
  ⟨zr.st.same k fun a _ o x => e a o x, zr.pre, zr.new, fun b o x n => e b o (zr.keep b o x n), zr.newP, fun b o x => e b o (zr.keepP b o x), zr.len, fun i dv x => by
    obtain ⟨v, hv, r⟩ := zr.slot i dv x
    exact ⟨v, hv, r.same k fun b o y _ _ => e b o y⟩, zr.dis⟩
theorem ZR.alloc (zr : ZR W B ι H σ z) {p : Addr} {o : HO} (h : H p = none) : ZR W B ι (upd H p o) σ z :=
  zr.same0 (Kp.alloc h) fun b u e => by rw [upd_ne (ne_of_none e h)]; exact e
theorem ZR.same {H' : Hp} (zr : ZR W B ι H σ z) (e : ∀ b o, H b = some o → H' b = some o) : ZR W B ι H' σ z := zr.same0 (Kp.same e) e
end
end DE
set_option Elab.async false
set_option linter.all false
set_option maxRecDepth 100000
set_option maxHeartbeats 4000000
/-! DE1: expressions at the level of data. -/
namespace DE
open PySem PySem.Spec L2

/-- what an expression gives, as data: a slot's own list is told by its slot -/
def XRep (W : Wd) (ι : List Addr) (H : Hp) (σ : L2.St) : D → V → Prop
  | .bor i, v => σ[i]? = some (some v)
  | d, v => d.plain = true ∧ Rep W ι H d v
theorem XRep.kp {W : Wd} {ι ι' : List Addr} {H H' : Hp} {σ : L2.St} (k : Kp ι H ι' H') : ∀ {d : D} {v : V}, XRep W ι H σ d v → XRep W ι' H' σ d v
  | .bor _, _, h => h
  | .non, _, h => ⟨h.1, h.2.kp k h.1⟩
  | .bl _, _, h => ⟨h.1, h.2.kp k h.1⟩
  | .int _, _, h => ⟨h.1, h.2.kp k h.1⟩
  | .str _, _, h => ⟨h.1, h.2.kp k h.1⟩
  | .lst _, _, h => ⟨h.1, h.2.kp k h.1⟩
  | .tup _, _, h => ⟨h.1, h.2.kp k h.1⟩
  | .ins _ _, _, h => ⟨h.1, h.2.kp k h.1⟩
  | .han _, _, h => ⟨h.1, h.2.kp k h.1⟩
  | .brw _, _, h => ⟨h.1, h.2.kp k h.1⟩
  | .fn _, _, h => ⟨h.1, h.2.kp k h.1⟩
theorem XRep.of {W : Wd} {ι : List Addr} {H : Hp} {σ : L2.St} : ∀ {d : D} {v : V}, d.plain = true → Rep W ι H d v → XRep W ι H σ d v
  | .bor _, _, p, _ => by cases p
  | .non, _, p, h => ⟨p, h⟩
  | .bl _, _, p, h => ⟨p, h⟩
  | .int _, _, p, h => ⟨p, h⟩
  | .str _, _, p, h => ⟨p, h⟩
  | .lst _, _, p, h => ⟨p, h⟩
  | .tup _, _, p, h => ⟨p, h⟩
  | .ins _ _, _, p, h => ⟨p, h⟩
  | .han _, _, p, h => ⟨p, h⟩
  | .brw _, _, p, h => ⟨p, h⟩
  | .fn _, _, p, h => ⟨p, h⟩
theorem XRep.rep {W : Wd} {ι : List Addr} {H : Hp} {σ : L2.St} : ∀ {d : D} {v : V}, XRep W ι H σ d v → d.plain = true → Rep W ι H d v
  | .bor _, _, _, p => by cases p
  | .non, _, h, _ => h.2
  | .bl _, _, h, _ => h.2
  | .int _, _, h, _ => h.2
  | .str _, _, h, _ => h.2
  | .lst _, _, h, _ => h.2
  | .tup _, _, h, _ => h.2
  | .ins _ _, _, h, _ => h.2
  | .han _, _, h, _ => h.2
  | .brw _, _, h, _ => h.2
  | .fn _, _, h, _ => h.2
/-- to be read now -/
def rdB (o : Option (Option DV)) : Option D := match o with
  | some (some (.own ds)) => some (.lst ds)
  | some (some (.brw ds)) => some (.lst ds)
  | _ => none
def rdH (n : Nat) (o : Option MO) : Option D := match o with
  | some (.lst ds) => some (.lst ds)
  | _ => some (.han n)
def rd (z : Z) : D → Option D
  | .bor i => rdB z.1[i]?
  | .han n => rdH n z.2[n]?
  | .brw _ => none
  | d => some d
def RRep (W : Wd) (ι : List Addr) (H : Hp) : D → V → Prop
  | .lst ds, v => ds.length ≤ sizeLine ∧ ∃ a xs, v = .ref a ∧ LsR W.K H a xs ∧ RepL W ι H ds xs
  | d, v => d.plain = true ∧ Rep W ι H d v
theorem RRep.of {W : Wd} {ι : List Addr} {H : Hp} : ∀ {d : D} {v : V}, d.plain = true → Rep W ι H d v → RRep W ι H d v
  | .bor _, _, p, _ => by cases p
  | .lst _, _, p, h => by
    unfold Rep at h
    obtain ⟨l, a, xs, e, f, r⟩ := h
    exact ⟨l, a, xs, e, f.ls, r⟩
  | .non, _, p, h => ⟨p, h⟩
  | .bl _, _, p, h => ⟨p, h⟩
  | .int _, _, p, h => ⟨p, h⟩
  | .str _, _, p, h => ⟨p, h⟩
  | .tup _, _, p, h => ⟨p, h⟩
  | .ins _ _, _, p, h => ⟨p, h⟩
  | .han _, _, p, h => ⟨p, h⟩
  | .brw _, _, p, h => by cases p
  | .fn _, _, p, h => ⟨p, h⟩
theorem rd_rep {W : Wd} {B : Bs} {ι : List Addr} {H : Hp} {σ : L2.St} {z : Z} (zr : ZR W B ι H σ z) : ∀ {d d' : D} {v : V}, XRep W ι H σ d v → rd z d = some d' → RRep W ι H d' v
  | .bor i, d', v, h, e => by
    have hs : σ[i]? = some (some v) := h
    have e : rdB z.1[i]? = some d' := e
    unfold rdB at e
    split at e
    · rename_i ds q
      cases e
      obtain ⟨u, hu, l, a, xs, ea, ha, _, _, r⟩ := zr.slot i _ q
      rw [hs] at hu; cases hu
      exact ⟨l, a, xs, ea, LsR.of ha, r⟩
    · rename_i ds q
      cases e
      obtain ⟨u, hu, l, a, xs, ea, ha, _, _, _, r⟩ := zr.slot i _ q
      rw [hs] at hu; cases hu
      exact ⟨l, a, xs, ea, LsR.of ha, r⟩
    · cases e
  | .han n, d', v, h, e => by
    have e : rdH n z.2[n]? = some d' := e
    unfold rdH at e
    split at e
    · rename_i ds q
      cases e
      obtain ⟨_, hr⟩ := h
      unfold Rep at hr
      obtain ⟨a, ea, ev⟩ := hr
      obtain ⟨l, xs, hx, r⟩ := zr.st.at_ n _ a q ea
      exact ⟨l, a, xs, ev, LsR.of hx, r⟩
    · cases e
      exact RRep.of h.1 h.2
  | .brw _, _, _, h, _ => by cases h.1
  | .non, _, _, h, e => by cases e; exact RRep.of h.1 h.2
  | .bl _, _, _, h, e => by cases e; exact RRep.of h.1 h.2
  | .int _, _, _, h, e => by cases e; exact RRep.of h.1 h.2
  | .str _, _, _, h, e => by cases e; exact RRep.of h.1 h.2
  | .lst _, _, _, h, e => by cases e; exact RRep.of h.1 h.2
  | .tup _, _, _, h, e => by cases e; exact RRep.of h.1 h.2
  | .ins _ _, _, _, h, e => by cases e; exact RRep.of h.1 h.2
  | .fn _, _, _, h, e => by cases e; exact RRep.of h.1 h.2

abbrev Ev := Z → Option (D × Z)
abbrev EvA := Z → Option (List D × Z)
abbrev EvT := Z → Option (Bool × Z)
/-- an expression read as data -/
def tev (W : Wd) (B : Bs) (f : Ev) : TE := fun σ H Q => ∃ ι z d z', ZR W B ι H σ z ∧ f z = some (d, z') ∧ ∀ v ι' H', Kp ι H ι' H' → XRep W ι' H' σ d v → ZR W B ι' H' σ z' → Q v H'
/-- a test read as data -/
def ttv (W : Wd) (B : Bs) (f : EvT) : TT := fun σ H Q => ∃ ι z b z', ZR W B ι H σ z ∧ f z = some (b, z') ∧ ∀ ι' H', Kp ι H ι' H' → ZR W B ι' H' σ z' → Q b H'
/-- several, as lasting data (or lent lists) -/
def tevA (W : Wd) (B : Bs) (f : EvA) : TA := fun σ H Q => ∃ ι z ds z', ZR W B ι H σ z ∧ f z = some (ds, z') ∧ ∀ vs ι' H', Kp ι H ι' H' → Paired (XRep W ι' H' σ) ds vs → ZR W B ι' H' σ z' → Q vs H'
/-- a fresh list -/
def tfr (W : Wd) (B : Bs) (f : EvA) : TE := fun σ H Q => ∃ ι z ds z', ZR W B ι H σ z ∧ f z = some (ds, z') ∧ ∀ p xs ι' H', Kp ι H ι' H' → ZR W B ι' H' σ z' → RepL W ι' H' ds xs → ds.length ≤ sizeLine → H p = none → H' p = some (.lst xs) → Fr B ι' σ z' p → Q (.ref p) H'
theorem pe_mono {X : Cx} {e : Expr} {t u : TE} (h : PE X e t) (m : ∀ σ H Q, u σ H Q → t σ H Q) : PE X e u := ⟨fun pins s σ H Q I q => h.run pins s σ H Q I (m σ H Q q)⟩
theorem pt_mono {X : Cx} {e : Expr} {t u : TT} (h : PT X e t) (m : ∀ σ H Q, u σ H Q → t σ H Q) : PT X e u := ⟨fun pins s σ H Q I q => h.run pins s σ H Q I (m σ H Q q)⟩
theorem pa_mono {X : Cx} {es : List Expr} {t u : TA} (h : PA X es t) (m : ∀ σ H Q, u σ H Q → t σ H Q) : PA X es u := ⟨fun pos pins s σ H Q I q => h.run pos pins s σ H Q I (m σ H Q q)⟩
theorem paired_kp {W : Wd} {ι ι' : List Addr} {H H' : Hp} {σ : L2.St} (k : Kp ι H ι' H') {ds : List D} {vs : List V} (h : Paired (XRep W ι H σ) ds vs) : Paired (XRep W ι' H' σ) ds vs := Paired.mapP h fun _ _ x => x.kp k

section
variable {X : Cx} {W : Wd} {B : Bs} {a b c e : Expr} {fa fb fc : Ev} {pos : Pos}
/-! ### names, constants -/
def fVar (i : Nat) : Ev := fun z => match z.1[i]? with
  | some (some (.imm d)) => some (d, z)
  | some (some _) => some (.bor i, z)
  | _ => none
theorem pe_varD {i : Nat} {x : Str} (hN : X.N[i]? = some x) (hv : Vis X.env.scope x) (hd : (x == ("__debug__" : Str)) = false) (hcd : (x == ("__classdict__" : Str)) = false) : PE X (.Name x pos) (tev W B (fVar i)) := by
  refine pe_mono (pe_var hN hv hd hcd) fun σ H Q h => ?_
  obtain ⟨ι, z, d, z', zr, e, k⟩ := h
  unfold fVar at e
  split at e
  · rename_i d0 q
    cases e
    obtain ⟨v, hv, p, r⟩ := zr.slot i _ q
    exact ⟨v, hv, k v ι H .refl (XRep.of p r) zr⟩
  · rename_i dv q
    cases e
    obtain ⟨v, hv, _⟩ := zr.slot i _ q
    exact ⟨v, hv, k v ι H .refl hv zr⟩
  · cases e
def fC (d : D) : Ev := fun z => some (d, z)
theorem tev_c {v : V} {d : D} (p : d.plain = true) (h : ∀ ι H, Rep W ι H d v) (σ : L2.St) (H : Hp) (Q : VK) (q : tev W B (fC d) σ H Q) : tC v σ H Q := by
  obtain ⟨ι, z, d', z', zr, e, k⟩ := q
  cases e
  exact k v ι H .refl (XRep.of p (h ι H)) zr
theorem pe_intD {i j} : PE X (.Constant (.int i) j pos) (tev W B (fC (.int i))) := pe_mono pe_int (tev_c rfl fun _ _ => by unfold Rep; rfl)
theorem pe_boolD {i j} : PE X (.Constant (.bool i) j pos) (tev W B (fC (.bl i))) := pe_mono pe_bl (tev_c rfl fun _ _ => by unfold Rep; rfl)
theorem pe_nonD {j} : PE X (.Constant .none j pos) (tev W B (fC .non)) := pe_mono pe_non (tev_c rfl fun _ _ => by unfold Rep; rfl)
theorem pe_strD {s : List Nat} {x : Str} {j} (h : x = SX.S s) (hl : s.length ≤ sizeLine) : PE X (.Constant (.str x) j pos) (tev W B (fC (.str s))) := pe_mono pe_str (tev_c rfl fun _ _ => by unfold Rep; exact ⟨by rw [h], hl⟩)
theorem pe_globD {x : Str} {v : V} {u : Value} {d : D} (hg : Gl X x) (hm : X.mg x = some u) (r : RelV v u) (p : d.plain = true) (h : ∀ ι H, Rep W ι H d v) (hd : (x == ("__debug__" : Str)) = false) : PE X (.Name x pos) (tev W B (fC d)) := pe_mono (pe_glob hg hm r hd) (tev_c p h)
/-! ### operators on values -/
def fBin (op : D → D → Option D) (fa fb : Ev) : Ev := fun z => (fa z).bind fun x => (fb x.2).bind fun y => (rd y.2 x.1).bind fun x' => (rd y.2 y.1).bind fun y' => (op x' y').map fun d => (d, y.2)
def OpOk (W : Wd) (r : R2) (op : D → D → Option D) : Prop := ∀ ι H x y v w d Q, op x y = some d → RRep W ι H x v → RRep W ι H y w → (∀ u H', (∀ b o, H b = some o → H' b = some o) → d.plain = true → Rep W ι H' d u → Q u H') → r v w H Q
theorem tev_bin {r : R2} {op : D → D → Option D} (ok : OpOk W r op) (σ : L2.St) (H : Hp) (Q : VK) (q : tev W B (fBin op fa fb) σ H Q) : tOp r (tev W B fa) (tev W B fb) σ H Q := by
  obtain ⟨ι, z, d, z', zr, e, k⟩ := q
  unfold fBin at e
  cases ea : fa z with
  | none => rw [ea] at e; cases e
  | some x =>
    rw [ea, Option.bind_some] at e
    cases eb : fb x.2 with
    | none => rw [eb] at e; cases e
    | some y =>
      rw [eb, Option.bind_some] at e
      cases e1 : rd y.2 x.1 with
      | none => rw [e1] at e; cases e
      | some x' =>
        rw [e1, Option.bind_some] at e
        cases e2 : rd y.2 y.1 with
        | none => rw [e2] at e; cases e
        | some y' =>
          rw [e2, Option.bind_some] at e
          cases e3 : op x' y' with
          | none => rw [e3] at e; cases e
          | some d' =>
            rw [e3] at e; cases e
            refine ⟨ι, z, x.1, x.2, zr, ea, fun v ι1 H1 k1 r1 zr1 => ⟨ι1, x.2, y.1, y.2, zr1, eb, fun w ι2 H2 k2 r2 zr2 => ?_⟩⟩
            refine ok ι2 H2 x' y' v w d Q e3 (rd_rep zr2 (r1.kp k2) e1) (rd_rep zr2 r2 e2) fun u H' sm p rp => ?_
            exact k u ι2 H' ((k1.trans k2).trans (Kp.same sm)) (XRep.of p rp) (zr2.same sm)
theorem pe_binD {o : Operator} {r : R2} {op : D → D → Option D} (ho : OpR X (binaryOp o) r) (ok : OpOk W r op) (ha : PE X a (tev W B fa)) (hb : PE X b (tev W B fb)) : PE X (.BinOp a o b pos) (tev W B (fBin op fa fb)) :=
  pe_mono (pe_op ho ha hb) (tev_bin ok)
theorem pe_cmpD {o : CmpOp} {r : R2} {op : D → D → Option D} (ho : OpR X (compareOp o) r) (ok : OpOk W r op) (ha : PE X a (tev W B fa)) (hb : PE X b (tev W B fb)) (hm : behindInMarks o b = false) : PE X (.Compare a [o] [b] pos) (tev W B (fBin op fa fb)) :=
  pe_mono (pe_cmpR ho ha hb hm) (tev_bin ok)
/-- a value that is a bool, as a test -/
def asT (f : Ev) : EvT := fun z => (f z).bind fun x => match x.1 with
  | .bl b => some (b, x.2)
  | _ => none
theorem ttv_b {f : Ev} (σ : L2.St) (H : Hp) (Q : Bool → Hp → Prop) (q : ttv W B (asT f) σ H Q) : tev W B f σ H fun x H1 => ∃ k, x = .bl k ∧ Q k H1 := by
  obtain ⟨ι, z, b, z', zr, e, k⟩ := q
  unfold asT at e
  cases ea : f z with
  | none => rw [ea] at e; cases e
  | some x =>
    rw [ea, Option.bind_some] at e
    obtain ⟨d, z1⟩ := x
    cases d with
    | bl c =>
      cases e
      refine ⟨ι, z, _, _, zr, ea, fun v ι' H' k1 r zr1 => ⟨_, ?_, k ι' H' k1 zr1⟩⟩
      have := r.rep rfl
      unfold Rep at this
      exact this
    | _ => cases e
theorem pt_cmpD {o : CmpOp} {r : R2} {op : D → D → Option D} (ho : OpR X (compareOp o) r) (ok : OpOk W r op) (ha : PE X a (tev W B fa)) (hb : PE X b (tev W B fb)) (hm : behindInMarks o b = false) : PT X (.Compare a [o] [b] pos) (ttv W B (asT (fBin op fa fb))) :=
  pt_mono (pt_cmpR ho ha hb hm) fun σ H Q q => tev_bin ok σ H _ (ttv_b σ H Q q)
/-- any expression whose test is its value's truth, the value a bool -/
theorem pt_valD {f : Ev} (h : PE X e (tev W B f)) (he : ∀ whole, isTrue e X.env whole = (do let v ← whole; standAt e.pos; holding [v] (truthy v))) : PT X e (ttv W B (asT f)) :=
  pt_mono (pt_val h he) fun σ H Q q => ttv_b σ H Q q
def fUn (op : D → Option D) (fa : Ev) : Ev := fun z => (fa z).bind fun x => (rd x.2 x.1).bind fun x' => (op x').map fun d => (d, x.2)
def UnOk (W : Wd) (r : V → Hp → VK → Prop) (op : D → Option D) : Prop := ∀ ι H x v d Q, op x = some d → RRep W ι H x v → (∀ u H', (∀ b o, H b = some o → H' b = some o) → d.plain = true → Rep W ι H' d u → Q u H') → r v H Q
theorem tev_un {r : V → Hp → VK → Prop} {op : D → Option D} (ok : UnOk W r op) (σ : L2.St) (H : Hp) (Q : VK) (q : tev W B (fUn op fa) σ H Q) : tUn r (tev W B fa) σ H Q := by
  obtain ⟨ι, z, d, z', zr, e, k⟩ := q
  unfold fUn at e
  cases ea : fa z with
  | none => rw [ea] at e; cases e
  | some x =>
    rw [ea, Option.bind_some] at e
    cases e1 : rd x.2 x.1 with
    | none => rw [e1] at e; cases e
    | some x' =>
      rw [e1, Option.bind_some] at e
      cases e3 : op x' with
      | none => rw [e3] at e; cases e
      | some d' =>
        rw [e3] at e; cases e
        refine ⟨ι, z, x.1, x.2, zr, ea, fun v ι1 H1 k1 r1 zr1 => ?_⟩
        refine ok ι1 H1 x' v d Q e3 (rd_rep zr1 r1 e1) fun u H' sm p rp => ?_
        exact k u ι1 H' (k1.trans (Kp.same sm)) (XRep.of p rp) (zr1.same sm)
theorem pe_unD {o : UnaryOp} {r : V → Hp → VK → Prop} {op : D → Option D} (ho : UnR X (unaryOp o) r) (ok : UnOk W r op) (ha : PE X a (tev W B fa)) : PE X (.UnaryOp o a pos) (tev W B (fUn op fa)) := pe_mono (pe_un ho ha) (tev_un ok)
/-- a op b op' c -/
def fChn (op op' : D → D → Option D) (fa fb fc : Ev) : Ev := fun z => (fa z).bind fun x => (fb x.2).bind fun y => (rd y.2 x.1).bind fun x' => (rd y.2 y.1).bind fun y' => (op x' y').bind fun d => match d with
  | .bl true => (fc y.2).bind fun w => (rd w.2 y.1).bind fun y2 => (rd w.2 w.1).bind fun w' => (op' y2 w').map fun d' => (d', w.2)
  | .bl false => some (.bl false, y.2)
  | _ => none
theorem tev_chn {r r' : R2} {op op' : D → D → Option D} (ok : OpOk W r op) (ok' : OpOk W r' op') (σ : L2.St) (H : Hp) (Q : VK) (q : tev W B (fChn op op' fa fb fc) σ H Q) : tChain r r' (tev W B fa) (tev W B fb) (tev W B fc) σ H Q := by
  obtain ⟨ι, z, d, z', zr, e, k⟩ := q
  unfold fChn at e
  cases ea : fa z with
  | none => rw [ea] at e; cases e
  | some x =>
    rw [ea, Option.bind_some] at e
    cases eb : fb x.2 with
    | none => rw [eb] at e; cases e
    | some y =>
      rw [eb, Option.bind_some] at e
      cases e1 : rd y.2 x.1 with
      | none => rw [e1] at e; cases e
      | some x' =>
        rw [e1, Option.bind_some] at e
        cases e2 : rd y.2 y.1 with
        | none => rw [e2] at e; cases e
        | some y' =>
          rw [e2, Option.bind_some] at e
          cases e3 : op x' y' with
          | none => rw [e3] at e; cases e
          | some d' =>
            rw [e3, Option.bind_some] at e
            refine ⟨ι, z, x.1, x.2, zr, ea, fun v ι1 H1 k1 r1 zr1 => ⟨ι1, x.2, y.1, y.2, zr1, eb, fun w ι2 H2 k2 r2 zr2 => ?_⟩⟩
            refine ok ι2 H2 x' y' v w d' _ e3 (rd_rep zr2 (r1.kp k2) e1) (rd_rep zr2 r2 e2) fun u H' sm p rp => ?_
            have zr3 := zr2.same sm
            cases d' with
            | bl cc =>
              unfold Rep at rp
              refine ⟨cc, rp, ?_⟩
              cases cc with
              | false =>
                cases e
                rw [if_neg Bool.false_ne_true]
                exact k (.bl false) ι2 H' ((k1.trans k2).trans (Kp.same sm)) ⟨rfl, by unfold Rep; rfl⟩ zr3
              | true =>
                rw [if_pos rfl]
                simp only at e
                cases ec : fc y.2 with
                | none => rw [ec] at e; cases e
                | some w3 =>
                  rw [ec, Option.bind_some] at e
                  cases e4 : rd w3.2 y.1 with
                  | none => rw [e4] at e; cases e
                  | some y2 =>
                    rw [e4, Option.bind_some] at e
                    cases e5 : rd w3.2 w3.1 with
                    | none => rw [e5] at e; cases e
                    | some w' =>
                      rw [e5, Option.bind_some] at e
                      cases e6 : op' y2 w' with
                      | none => rw [e6] at e; cases e
                      | some d2 =>
                        rw [e6] at e; cases e
                        refine ⟨ι2, y.2, w3.1, w3.2, zr3, ec, fun u2 ι3 H3 k3 r3 zr4 => ?_⟩
                        refine ok' ι3 H3 y2 w' w u2 d Q e6 (rd_rep zr4 (r2.kp ((Kp.same sm).trans k3)) e4) (rd_rep zr4 r3 e5) fun u4 H4 sm4 p4 rp4 => ?_
                        exact k u4 ι3 H4 ((((k1.trans k2).trans (Kp.same sm)).trans k3).trans (Kp.same sm4)) (XRep.of p4 rp4) (zr4.same sm4)
            | _ => cases e
theorem pe_chnD {o o' : CmpOp} {r r' : R2} {op op' : D → D → Option D} (ho : OpR X (compareOp o) r) (ok : OpOk W r op) (ho' : OpR X (compareOp o') r') (ok' : OpOk W r' op') (ha : PE X a (tev W B fa)) (hb : PE X b (tev W B fb)) (hc : PE X c (tev W B fc)) (hm : lastMarks [o, o'] [b, c] = false) :
    PE X (.Compare a [o, o'] [b, c] pos) (tev W B (fChn op op' fa fb fc)) := pe_mono (pe_chain ho ho' ha hb hc hm) (tev_chn ok ok')
theorem pt_chnD {o o' : CmpOp} {r r' : R2} {op op' : D → D → Option D} (ho : OpR X (compareOp o) r) (ok : OpOk W r op) (ho' : OpR X (compareOp o') r') (ok' : OpOk W r' op') (ha : PE X a (tev W B fa)) (hb : PE X b (tev W B fb)) (hc : PE X c (tev W B fc)) (hm : lastMarks [o, o'] [b, c] = false) :
    PT X (.Compare a [o, o'] [b, c] pos) (ttv W B (asT (fChn op op' fa fb fc))) := pt_mono (pt_chain ho ho' ha hb hc hm) fun σ H Q q => tev_chn ok ok' σ H _ (ttv_b σ H Q q)
/-! ### and, or, not, if -/
def fAnd (fa fb : Ev) : Ev := fun z => (fa z).bind fun x => match x.1 with
  | .bl true => fb x.2
  | .bl false => some (.bl false, x.2)
  | _ => none
def fOr (fa fb : Ev) : Ev := fun z => (fa z).bind fun x => match x.1 with
  | .bl true => some (.bl true, x.2)
  | .bl false => fb x.2
  | _ => none
def fNot (fa : Ev) : Ev := fun z => (fa z).bind fun x => match x.1 with
  | .bl b => some (.bl (!b), x.2)
  | _ => none
theorem rep_bl {ι : List Addr} {H : Hp} {σ : L2.St} {b : Bool} {v : V} (h : XRep W ι H σ (.bl b) v) : v = .bl b := by
  have := h.rep rfl
  unfold Rep at this
  exact this
theorem xbl {ι : List Addr} {H : Hp} {σ : L2.St} {b : Bool} : XRep W ι H σ (.bl b) (.bl b) := ⟨rfl, by unfold Rep; rfl⟩
theorem pe_andD {rest : List Expr} (ha : PE X a (tev W B fa)) (hb : PE X (.BoolOp .And (b :: rest) pos) (tev W B fb)) : PE X (.BoolOp .And (a :: b :: rest) pos) (tev W B (fAnd fa fb)) := by
  refine pe_mono (pe_and ha hb) fun σ H Q q => ?_
  obtain ⟨ι, z, d, z', zr, e, k⟩ := q
  unfold fAnd at e
  cases ea : fa z with
  | none => rw [ea] at e; cases e
  | some x =>
    rw [ea, Option.bind_some] at e
    obtain ⟨d1, z1⟩ := x
    cases d1 with
    | bl c =>
      refine ⟨ι, z, _, z1, zr, ea, fun v ι1 H1 k1 r1 zr1 => ⟨c, rep_bl r1, ?_⟩⟩
      cases c with
      | true => rw [if_pos rfl]; exact ⟨ι1, z1, d, z', zr1, e, fun v ι2 H2 k2 r2 zr2 => k v ι2 H2 (k1.trans k2) r2 zr2⟩
      | false => rw [if_neg Bool.false_ne_true]; cases e; exact k _ ι1 H1 k1 xbl zr1
    | _ => cases e
theorem pe_orD {rest : List Expr} (ha : PE X a (tev W B fa)) (hb : PE X (.BoolOp .Or (b :: rest) pos) (tev W B fb)) : PE X (.BoolOp .Or (a :: b :: rest) pos) (tev W B (fOr fa fb)) := by
  refine pe_mono (pe_or ha hb) fun σ H Q q => ?_
  obtain ⟨ι, z, d, z', zr, e, k⟩ := q
  unfold fOr at e
  cases ea : fa z with
  | none => rw [ea] at e; cases e
  | some x =>
    rw [ea, Option.bind_some] at e
    obtain ⟨d1, z1⟩ := x
    cases d1 with
    | bl c =>
      refine ⟨ι, z, _, z1, zr, ea, fun v ι1 H1 k1 r1 zr1 => ⟨c, rep_bl r1, ?_⟩⟩
      cases c with
      | false => rw [if_neg Bool.false_ne_true]; exact ⟨ι1, z1, d, z', zr1, e, fun v ι2 H2 k2 r2 zr2 => k v ι2 H2 (k1.trans k2) r2 zr2⟩
      | true => rw [if_pos rfl]; cases e; exact k _ ι1 H1 k1 xbl zr1
    | _ => cases e
theorem pe_notD (ha : PE X a (tev W B fa)) : PE X (.UnaryOp .Not a pos) (tev W B (fNot fa)) := by
  refine pe_mono (pe_not ha) fun σ H Q q => ?_
  obtain ⟨ι, z, d, z', zr, e, k⟩ := q
  unfold fNot at e
  cases ea : fa z with
  | none => rw [ea] at e; cases e
  | some x =>
    rw [ea, Option.bind_some] at e
    obtain ⟨d1, z1⟩ := x
    cases d1 with
    | bl c =>
      cases e
      exact ⟨ι, z, _, z1, zr, ea, fun v ι1 H1 k1 r1 zr1 => ⟨c, rep_bl r1, k _ ι1 H1 k1 xbl zr1⟩⟩
    | _ => cases e
/-- tests -/
def gAnd (fa fb : EvT) : EvT := fun z => (fa z).bind fun x => if x.1 then fb x.2 else some (false, x.2)
def gOr (fa fb : EvT) : EvT := fun z => (fa z).bind fun x => if x.1 then some (true, x.2) else fb x.2
def gNot (fa : EvT) : EvT := fun z => (fa z).map fun x => (!x.1, x.2)
variable {ga gb gc : EvT}
theorem pw_andD {rest : List Expr} (ha : PT X a (ttv W B ga)) (hb : PW X (.BoolOp .And (b :: rest) pos) (ttv W B gb)) : PW X (.BoolOp .And (a :: b :: rest) pos) (ttv W B (gAnd ga gb)) := by
  refine ⟨fun wh pins s σ H Q I q => (pw_and ha hb).run wh pins s σ H Q I ?_⟩
  obtain ⟨ι, z, d, z', zr, e, k⟩ := q
  unfold gAnd at e
  cases ea : ga z with
  | none => rw [ea] at e; cases e
  | some x =>
    rw [ea, Option.bind_some] at e
    obtain ⟨c, z1⟩ := x
    refine ⟨ι, z, c, z1, zr, ea, fun ι1 H1 k1 zr1 => ?_⟩
    cases c with
    | true => rw [if_pos rfl]; exact ⟨ι1, z1, d, z', zr1, e, fun ι2 H2 k2 zr2 => k ι2 H2 (k1.trans k2) zr2⟩
    | false => rw [if_neg Bool.false_ne_true]; cases e; exact k ι1 H1 k1 zr1
theorem pw_orD {rest : List Expr} (ha : PT X a (ttv W B ga)) (hb : PW X (.BoolOp .Or (b :: rest) pos) (ttv W B gb)) : PW X (.BoolOp .Or (a :: b :: rest) pos) (ttv W B (gOr ga gb)) := by
  refine ⟨fun wh pins s σ H Q I q => (pw_or ha hb).run wh pins s σ H Q I ?_⟩
  obtain ⟨ι, z, d, z', zr, e, k⟩ := q
  unfold gOr at e
  cases ea : ga z with
  | none => rw [ea] at e; cases e
  | some x =>
    rw [ea, Option.bind_some] at e
    obtain ⟨c, z1⟩ := x
    refine ⟨ι, z, c, z1, zr, ea, fun ι1 H1 k1 zr1 => ?_⟩
    cases c with
    | false => rw [if_neg Bool.false_ne_true]; exact ⟨ι1, z1, d, z', zr1, e, fun ι2 H2 k2 zr2 => k ι2 H2 (k1.trans k2) zr2⟩
    | true => rw [if_pos rfl]; cases e; exact k ι1 H1 k1 zr1
theorem pt_notD (ha : PT X a (ttv W B ga)) : PT X (.UnaryOp .Not a pos) (ttv W B (gNot ga)) := by
  refine pt_mono (pt_not ha) fun σ H Q q => ?_
  obtain ⟨ι, z, d, z', zr, e, k⟩ := q
  unfold gNot at e
  cases ea : ga z with
  | none => rw [ea] at e; cases e
  | some x => rw [ea] at e; cases e; exact ⟨ι, z, x.1, x.2, zr, ea, fun ι1 H1 k1 zr1 => k ι1 H1 k1 zr1⟩
def fIf (ga : EvT) (fa fb : Ev) : Ev := fun z => (ga z).bind fun x => if x.1 then fa x.2 else fb x.2
theorem pe_ifD {t : Expr} (ht : PT X t (ttv W B ga)) (ha : PE X a (tev W B fa)) (hb : PE X b (tev W B fb)) : PE X (.IfExp t a b pos) (tev W B (fIf ga fa fb)) := by
  refine pe_mono (pe_ifExp ht ha hb) fun σ H Q q => ?_
  obtain ⟨ι, z, d, z', zr, e, k⟩ := q
  unfold fIf at e
  cases ea : ga z with
  | none => rw [ea] at e; cases e
  | some x =>
    rw [ea, Option.bind_some] at e
    obtain ⟨c, z1⟩ := x
    refine ⟨ι, z, c, z1, zr, ea, fun ι1 H1 k1 zr1 => ?_⟩
    cases c with
    | true => rw [if_pos rfl]; exact ⟨ι1, z1, d, z', zr1, e, fun v ι2 H2 k2 r2 zr2 => k v ι2 H2 (k1.trans k2) r2 zr2⟩
    | false => rw [if_neg Bool.false_ne_true]; exact ⟨ι1, z1, d, z', zr1, e, fun v ι2 H2 k2 r2 zr2 => k v ι2 H2 (k1.trans k2) r2 zr2⟩
end
end DE
set_option Elab.async false
set_option linter.all false
set_option maxRecDepth 100000
set_option maxHeartbeats 4000000
/-! DEG: promises of defs that are called where no repr is under way (Around.guards is some []), so that a repr of a list can be walked in their bodies. -/
namespace DE
open PySem PySem.Spec PyProof.Rows L2
structure FnG (P : Program) (w : World) (K : PySem.W.Frag) (mg : Str → Option Value) (base : Heap) (k : Nat) (f : Addr) (fd : FuncData) (ps : List Str) (sp : Sp) : Prop where
  len : ∀ vs H Q E, sp vs H Q E → vs.length = ps.length
  run : ∀ (A : Around) (outer : List Env) (s : Shared) (H : Hp) (args : Args) (us : List Value) (vs : List V) (Q : VK) (E : XK), Room k A → A.guards = some [] → Env0 P w K mg base A outer s H → BindsTo s fd args (ps.zip us) → Vals vs us → sp vs H Q E →
    codeAny (model P w) A (.call (.ref f) args) (CR L2.CX0 outer P w H s Q E) s
section
variable {P : Program} {w : World} {K : PySem.W.Frag} {mg : Str → Option Value} {base : Heap} {j k : Nat} {f : Addr} {fd : FuncData} {ps : List Str} {sp sp' : Sp}
theorem FnG.mono (F : FnG P w K mg base j f fd ps sp) (h : j ≤ k) : FnG P w K mg base k f fd ps sp := ⟨F.len, fun A outer s H args us vs Q E hr => F.run A outer s H args us vs Q E (hr.mono h)⟩
theorem FnG.imp (F : FnG P w K mg base k f fd ps sp) (h : ∀ vs H Q E, sp' vs H Q E → sp vs H Q E) : FnG P w K mg base k f fd ps sp' :=
  ⟨fun vs H Q E q => F.len vs H Q E (h _ _ _ _ q), fun A outer s H args us vs Q E hr hg he hb hv hs => F.run A outer s H args us vs Q E hr hg he hb hv (h _ _ _ _ hs)⟩
/-- by the body -/
theorem fnG_of {x qual : Str} {params : Arguments} {body : List Stmt} {scope : Scope} {dvs : List V} {kws : List (Str × V)} {N : List Str} (F : FunD K x qual params body scope dvs kws f fd) (S : FnScope N ps scope) (len : ∀ vs H Q E, sp vs H Q E → vs.length = ps.length)
    (hbody : ∀ (cdv : Value) (A : Around) (outer : List Env) (s : Shared) (H : Hp) (vs : List V) (Q : VK) (E : XK), Room k (A.deeper (envOfC qual scope s.heap.objs.size f cdv)) → A.guards = some [] → sp vs H Q E →
      ∃ t, PSs (cxOf L2.CX0 P w K mg base N qual scope f cdv A outer s H E) body t ∧ t { nx := fun _ H' => Q .non H', rt := Q } (start N vs) H) : FnG P w K mg base (k + 1) f fd ps sp := by
  obtain ⟨oc, od, dV, kV, doc, pm, an, cdv, ct, osl, rfl, lk, hcd, _, _⟩ := F.ex
  refine ⟨len, fun A outer s H args us vs Q E hr hgd e0 hb r hsp => ?_⟩
  have hl := len _ _ _ _ hsp
  have KX : K.In s.heap := e0.mod.kin.keeps fun b o e => (e0.bs b o e).1
  have lim : s.heap.NoLimit := e0.mod.nolimit.keeps fun b o e => (e0.bs b o e).1
  refine codeAny_call_function hr.depth (KX _ _ lk) rfl S.co S.gen rfl (PySem.W.codeRec_of KX hcd) (hb _ _ _ _ ?_)
  refine wpAny_newFunctionEnv_cells S.kind (fun y hy => (S.par y.1 (List.of_mem_zip (show (y.1, y.2) ∈ _ from hy)).1).imp id fun q => ⟨q, PySem.W.cellsFrom_some _ _ _ (.inl q)⟩) fun env he s1 x => ?_
  subst he
  refine ⟨lim.keeps x.toInCall.keep, codeAny_func ?_⟩
  obtain ⟨t, ht, hq⟩ := hbody cdv A outer s H vs Q E (hr.deeper _) hgd hsp
  refine wpAny_mono (ht.run [] s1 (start N vs) H _ (inv_start S hr.hd e0 hl r x) hq) (fun fl s' hs => ?_) fun e s' hs => hs
  cases fl with
  | ret u => obtain ⟨v, σ', H', J, rv, q⟩ := hs; exact ⟨v, H', J.os, J.bare, J.base, J.hok, rv, q⟩
  | next => obtain ⟨σ', H', J, q⟩ := hs; exact ⟨.non, H', J.os, J.bare, J.base, J.hok, (rfl : Value.none = Value.none), q⟩
  | brk => obtain ⟨_, _, _, q⟩ := hs; exact q.elim
  | cont => obtain ⟨_, _, _, q⟩ := hs; exact q.elim
end
section
variable {X : Cx} {k : Nat} {f C : Addr} {fd : FuncData} {ps ks : List Str} {sp : Sp} {E : XK} {x m : Str} {p pos apos : Pos} {e o : Expr} {es : List Expr} {kws : List Keyword} {ta : TE} {t tk : TA}
  {pins : List (Addr × Obj)} {σ : L2.St} {H : Hp} {s : Shared} {Q : VK} {us ws : List Value} {vs zs : List V}
/-- the callee's end is this body's next state -/
theorem back0 (I : Inv X pins σ H s) {A : Around} {c : Code} (h : codeAny (model X.prog X.w) A c (CR L2.CX0 X.stack X.prog X.w H s Q E) s) : codeAny (model X.prog X.w) A c (fun r s' => match r with | .ok (.ret u) => EP X pins σ Q u s' | .ok _ => False | .error e => X.xe e s') s :=
  codeAny_mono h fun r s' hq => by
    cases r with
    | error e => exact hq.elim
    | ok fl =>
      cases fl with
      | ret u => exact I.after hq
      | _ => exact hq.elim
theorem run_fnG (F : FnG X.prog X.w X.K X.mg X.base k f fd ps sp) (hr : Room k X.A) (hgd : X.A.guards = some []) (hb : Binds X.K fd ps []) (I : Inv X pins σ H s) (r : Vals vs us) (h : sp vs H Q E) :
    wpAny (model X.prog X.w) X.A (call (.ref f) us) (EP X pins σ Q) X.xe s := by
  have hl : (us ++ []).length = ps.length := by rw [List.append_nil, ← r.length]; exact F.len _ _ _ _ h
  have hB := hb s us I.kIn hl
  rw [List.append_nil] at hB
  refine wpAny_call (codeAny_mono (back0 I (F.run X.A X.stack s H ⟨us, []⟩ us vs Q E hr hgd I.env0 hB r h)) fun r s' hq => ?_)
  cases r with
  | error e => exact hq
  | ok fl => cases fl <;> exact hq
theorem run_fnkG {g : List Value → List Value → List Value} {gV : List V → List V → List V} (F : FnG X.prog X.w X.K X.mg X.base k f fd ps sp) (hr : Room k X.A) (hgd : X.A.guards = some []) (hb : KBinds X.K fd ps ks g gV) (I : Inv X pins σ H s) (r : Vals vs us) (rz : Vals zs ws)
    (h : sp (gV vs zs) H Q E) : wpAny (model X.prog X.w) X.A (call (.ref f) us (ks.zip ws)) (EP X pins σ Q) X.xe s := by
  have r2 := hb.rel r rz
  have hl : (g us ws).length = ps.length := by rw [← r2.length]; exact F.len _ _ _ _ h
  refine wpAny_call (codeAny_mono (back0 I (F.run X.A X.stack s H ⟨us, ks.zip ws⟩ (g us ws) (gV vs zs) Q E hr hgd I.env0 (hb.to s us ws I.kIn hl) r2 h)) fun r s' hq => ?_)
  cases r with
  | error e => exact hq
  | ok fl => cases fl <;> exact hq
theorem pe_callG (F : FnG X.prog X.w X.K X.mg X.base k f fd ps sp) (hr : Room k X.A) (hgd : X.A.guards = some []) (hg : Gl X x) (hm : X.mg x = some (.ref f)) (hk : PySem.W.keepIn X.K (.ref f) = true) (hb : Binds X.K fd ps [])
    (ha : PA X (e :: es) t) (hdb : (x == ("__debug__" : Str)) = false) (he : starEach (e :: es) X.env = (false, eval e X.env) :: starEach es X.env) (hpl : (backTo pos (starEach es X.env)).any (·.1) = false) :
    PE X (.Call (.Name x p) (e :: es) [] pos) (tCall sp [] E t) := by
  refine ⟨fun pins s σ H Q I h => wpAny_Call_Name_kw (ld_glob I hg hm ?_ hdb)⟩
  refine PySem.W.callWith_K (h₀ := X.base) I.ok.mod.kin hk (thn (ha.run pos pins s σ H _ I h) fun us s1 ⟨vs, H1, I1, r, q⟩ => ⟨I1.kIn, ?_⟩) he hpl
  have q : sp (vs ++ []) _ _ _ := q
  rw [List.append_nil] at q
  exact run_fnG F hr hgd hb I1 r q
theorem pe_call0G (F : FnG X.prog X.w X.K X.mg X.base k f fd ps sp) (hr : Room k X.A) (hgd : X.A.guards = some []) (hg : Gl X x) (hm : X.mg x = some (.ref f)) (hk : PySem.W.keepIn X.K (.ref f) = true) (hb : Binds X.K fd ps [])
    (hdb : (x == ("__debug__" : Str)) = false) : PE X (.Call (.Name x p) [] [] pos) (tCall sp [] E tNil) :=
  ⟨fun pins s σ H Q I h => wpAny_Call_Name_kw (ld_glob I hg hm (PySem.W.callWith_K0 I.kIn hk (run_fnG (us := []) F hr hgd hb I .nil h)) hdb)⟩
end
end DE
set_option Elab.async false
set_option linter.all false
set_option maxRecDepth 100000
set_option maxHeartbeats 4000000
/-! DE2: fresh lists, what is kept, arguments, tuples, calls. -/
namespace DE
open PySem PySem.Spec L2
section
variable {W : Wd} {B : Bs} {ι : List Addr} {H : Hp} {σ : L2.St} {z : Z}
/-- a changing thing at p is put otherwise -/
theorem Kp.at_ {p : Addr} {o o' : HO} (h : H p = some o) (hf : fzn o = false) (hi : ∀ C dx fs, o = .ins C dx fs → p ∈ ι) : Kp ι H ι (upd H p o') :=
  ⟨List.prefix_refl _, fun _ h n => absurd h n, fun b u e s => by
    by_cases hb : b = p
    · subst hb; rw [h] at e; cases e; rw [hf] at s; cases s
    · rw [upd_ne hb]; exact e, fun b C dx fs e n => by
    by_cases hb : b = p
    · subst hb; rw [h] at e; cases e; exact absurd (hi _ _ _ rfl) n
    · rw [upd_ne hb]; exact e, fun b e => by
    by_cases hb : b = p
    · subst hb; rw [upd_same] at e; cases e
    · rw [upd_ne hb] at e; exact e⟩
theorem DRep.off {p : Addr} {o : HO} {v : V} (k : Kp ι H ι (upd H p o)) (hb : B.fr p) : ∀ {dv : DV}, (dv.isOwn = true → v ≠ .ref p) → DRep W B ι H v dv → DRep W B ι (upd H p o) v dv
  | .imm _, _, h => ⟨h.1, h.2.kp k h.1⟩
  | .own _, n, h => by obtain ⟨l, a, xs, e, x, b, i, r⟩ := h; exact ⟨l, a, xs, e, by rw [upd_ne (fun q => n rfl (by rw [e, q]))]; exact x, b, i, r.kp k⟩
  | .oT _, n, h => by obtain ⟨l, a, xs, e, x, b, i, r⟩ := h; exact ⟨l, a, xs, e, by rw [upd_ne (fun q => n rfl (by rw [e, q]))]; exact x, b, i, r.kp k⟩
  | .oK _, n, h => by obtain ⟨l, a, xs, e, x, b, i, r⟩ := h; exact ⟨l, a, xs, e, by rw [upd_ne (fun q => n rfl (by rw [e, q]))]; exact x, b, i, r.kp k⟩
  | .brw _, n, h => by
    obtain ⟨l, a, xs, e, x, b, m, i, r⟩ := h
    exact ⟨l, a, xs, e, by rw [upd_ne (fun q => by rw [q, hb.1] at b; cases b)]; exact x, b, m, i, r.kp k⟩
/-- .. where p is new -/
theorem ZR.at_fr {p : Addr} {o : HO} (zr : ZR W B ι H σ z) (fr : Fr B ι σ z p) (k : Kp ι H ι (upd H p o)) : ZR W B ι (upd H p o) σ z :=
  ⟨zr.st.same k fun a ha u e => by rw [upd_ne (fun q : a = p => fr.i (q ▸ ha))]; exact e, zr.pre, zr.new, fun b u x n => by rw [upd_ne (fun q => by rw [q, fr.b.1] at x; cases x)]; exact zr.keep b u x n, zr.newP, fun b u x => by rw [upd_ne (fun q => by rw [q, fr.b.2] at x; cases x)]; exact zr.keepP b u x, zr.len, fun i dv x => by
    obtain ⟨v, hv, r⟩ := zr.slot i dv x
    exact ⟨v, hv, r.off k fr.b fun ho e => fr.o i dv x ho (by rw [hv, e])⟩, zr.dis⟩
/-- a new thing becomes a cell -/
theorem Kp.cel {p : Addr} (h : ∀ C dx fs, H p ≠ some (.ins C dx fs)) : Kp ι H (ι ++ [p]) H :=
  ⟨List.prefix_append _ _, fun a ha n => by
    rcases List.mem_append.mp ha with q | q
    · exact absurd q n
    · rw [List.mem_singleton] at q; subst q; exact h, fun _ _ e _ => e, fun _ _ _ _ e _ => e, fun _ e => e⟩
theorem StRep.cel {S : Store} {p : Addr} {m : MO} (h : StRep W ι H S) (hp : p ∉ ι) (k : Kp ι H (ι ++ [p]) H) (hm : MRep W (ι ++ [p]) H p m) : StRep W (ι ++ [p]) H (S ++ [m]) where
  len := by simp [h.len]
  nd := by
    rw [List.nodup_append]
    refine ⟨h.nd, by simp, fun a ha b hb => ?_⟩
    rw [List.mem_singleton] at hb; subst hb
    rintro rfl; exact hp ha
  at_ := fun n mo a e1 e2 => by
    by_cases hn : n < S.length
    · rw [List.getElem?_append_left hn] at e1
      rw [List.getElem?_append_left (by rw [← h.len]; exact hn)] at e2
      exact (h.at_ n mo a e1 e2).kp k fun _ e => e
    · have hn' : S.length ≤ n := by omega
      rw [List.getElem?_append_right hn'] at e1
      rw [List.getElem?_append_right (by rw [← h.len]; exact hn'), ← h.len] at e2
      cases q : n - S.length with
      | zero => rw [q] at e1 e2; simp at e1 e2; subst e1; subst e2; exact hm
      | succ j => rw [q] at e1; simp at e1
theorem DRep.cel {p : Addr} {v : V} (k : Kp ι H (ι ++ [p]) H) (hb : B.fr p) : ∀ {dv : DV}, (dv.isOwn = true → v ≠ .ref p) → DRep W B ι H v dv → DRep W B (ι ++ [p]) H v dv
  | .imm _, _, h => ⟨h.1, h.2.kp k h.1⟩
  | .own _, n, h => by obtain ⟨l, a, xs, e, x, b, i, r⟩ := h; exact ⟨l, a, xs, e, x, b, by simp only [List.mem_append, List.mem_singleton, not_or]; exact ⟨i, fun q => n rfl (by rw [e, q])⟩, r.kp k⟩
  | .oT _, n, h => by obtain ⟨l, a, xs, e, x, b, i, r⟩ := h; exact ⟨l, a, xs, e, x, b, by simp only [List.mem_append, List.mem_singleton, not_or]; exact ⟨i, fun q => n rfl (by rw [e, q])⟩, r.kp k⟩
  | .oK _, n, h => by obtain ⟨l, a, xs, e, x, b, i, r⟩ := h; exact ⟨l, a, xs, e, x, b, by simp only [List.mem_append, List.mem_singleton, not_or]; exact ⟨i, fun q => n rfl (by rw [e, q])⟩, r.kp k⟩
  | .brw _, n, h => by
    obtain ⟨l, a, xs, e, x, b, m, i, r⟩ := h
    exact ⟨l, a, xs, e, x, b, m, by simp only [List.mem_append, List.mem_singleton, not_or]; exact ⟨i, fun q => by rw [q, hb.1] at b; cases b⟩, r.kp k⟩
theorem ZR.cel {p : Addr} {m : MO} (zr : ZR W B ι H σ z) (fr : Fr B ι σ z p) (k : Kp ι H (ι ++ [p]) H) (hm : MRep W (ι ++ [p]) H p m) : ZR W B (ι ++ [p]) H σ (z.1, z.2 ++ [m]) :=
  ⟨zr.st.cel fr.i k hm, zr.pre.trans (List.prefix_append _ _), fun a ha n => by
    rcases List.mem_append.mp ha with q | q
    · exact zr.new a q n
    · rw [List.mem_singleton] at q; subst q; exact fr.b.1, zr.keep, fun a ha => by
    rcases List.mem_append.mp ha with q | q
    · exact zr.newP a q
    · rw [List.mem_singleton] at q; subst q; exact fr.b.2, zr.keepP, zr.len, fun i dv x => by
    obtain ⟨v, hv, r⟩ := zr.slot i dv x
    exact ⟨v, hv, r.cel k fr.b fun ho e => fr.o i dv x ho (by rw [hv, e])⟩, zr.dis⟩
end
section
variable {X : Cx} {W : Wd} {B : Bs} {a b c e : Expr} {fa fb fc : Ev} {pos : Pos}
/-! ### a fresh list is kept: it will not change any more -/
def fLst (f : EvA) : Ev := fun z => (f z).map fun x => (.lst x.1, x.2)
theorem pe_frzD {f : EvA} (h : PE X e (tfr W B f)) : PE X e (tev W B (fLst f)) := by
  refine ⟨fun pins s σ H Q I q => ?_⟩
  obtain ⟨ι, z, d, z', zr, e1, k⟩ := q
  unfold fLst at e1
  cases ea : f z with
  | none => rw [ea] at e1; cases e1
  | some x =>
    rw [ea] at e1; cases e1
    refine thn (h.run pins s σ H (fun v H' => ∃ p xs ι', v = .ref p ∧ Kp ι H ι' H' ∧ ZR W B ι' H' σ x.2 ∧ RepL W ι' H' x.1 xs ∧ x.1.length ≤ sizeLine ∧ H' p = some (.lst xs) ∧ Fr B ι' σ x.2 p) I
      ⟨ι, z, x.1, x.2, zr, ea, fun p xs ι' H' k1 zr1 r l _ hp fr => ⟨p, xs, ι', rfl, k1, zr1, r, l, hp, fr⟩⟩) fun u s' ⟨v, H', I', rv, p, xs, ι', ev, k1, zr1, r, l, hp, fr⟩ => ?_
    obtain ⟨o, I2⟩ := I'.lock hp trivial
    have k2 : Kp ι' H' ι' (upd H' p (.frz o (.lst xs))) := Kp.at_ hp rfl (fun _ _ _ q => by cases q)
    refine ⟨v, _, I2, rv, k v ι' _ (k1.trans k2) ⟨rfl, ?_⟩ (zr1.at_fr fr k2)⟩
    unfold Rep
    exact ⟨l, p, xs, ev, .inl ⟨o, upd_same⟩, r.kp k2⟩
/-- .. as a cell of the store -/
def fCel (f : EvA) : Ev := fun z => (f z).map fun x => (.han x.2.2.length, (x.2.1, x.2.2 ++ [.lst x.1]))
theorem pe_celD {f : EvA} (h : PE X e (tfr W B f)) : PE X e (tev W B (fCel f)) := by
  refine pe_mono h fun σ H Q q => ?_
  obtain ⟨ι, z, d, z', zr, e1, k⟩ := q
  unfold fCel at e1
  cases ea : f z with
  | none => rw [ea] at e1; cases e1
  | some x =>
    rw [ea] at e1; cases e1
    refine ⟨ι, z, x.1, x.2, zr, ea, fun p xs ι' H' k1 zr1 r l _ hp fr => ?_⟩
    have k2 : Kp ι' H' (ι' ++ [p]) H' := Kp.cel fun C dx fs q => by rw [hp] at q; cases q
    refine k _ (ι' ++ [p]) H' (k1.trans k2) ⟨rfl, ?_⟩ (zr1.cel fr k2 ⟨l, xs, hp, r.kp k2⟩)
    unfold Rep
    exact ⟨p, by rw [zr1.st.len]; simp, rfl⟩
/-- a slot's own list is kept from now on -/
def escD (d : D) (z : Z) : Option (D × Z) := match d with
  | .bor i => (match z.1[i]? with
    | some (some (.own ds)) => some (.lst ds, (z.1.set i (some (.imm (.lst ds))), z.2))
    | _ => none)
  | .brw _ => none
  | d => some (d, z)
def fEsc (f : Ev) : Ev := fun z => (f z).bind fun x => escD x.1 x.2
theorem escD_plain {d d' : D} {z z' : Z} (h : escD d z = some (d', z')) : (d.plain = true ∧ d' = d ∧ z' = z) ∨ ∃ i ds, d = .bor i ∧ z.1[i]? = some (some (.own ds)) ∧ d' = .lst ds ∧ z' = (z.1.set i (some (.imm (.lst ds))), z.2) := by
  cases d with
  | bor i =>
    refine .inr ⟨i, ?_⟩
    have h : (match z.1[i]? with
      | some (some (.own ds)) => some (D.lst ds, ((z.1.set i (some (.imm (.lst ds))), z.2) : Z))
      | _ => none) = some (d', z') := h
    split at h
    · rename_i ds q; cases h; exact ⟨ds, rfl, q, rfl, rfl⟩
    · cases h
  | brw _ => cases h
  | _ => cases h; exact .inl ⟨rfl, rfl, rfl⟩
theorem pe_escD (h : PE X e (tev W B fa)) : PE X e (tev W B (fEsc fa)) := by
  refine ⟨fun pins s σ H Q I q => ?_⟩
  obtain ⟨ι, z, d, z', zr, e1, k⟩ := q
  unfold fEsc at e1
  cases ea : fa z with
  | none => rw [ea] at e1; cases e1
  | some x =>
    rw [ea, Option.bind_some] at e1
    refine thn (h.run pins s σ H (fun v H' => ∃ ι', Kp ι H ι' H' ∧ XRep W ι' H' σ x.1 v ∧ ZR W B ι' H' σ x.2) I ⟨ι, z, x.1, x.2, zr, ea, fun v ι' H' k1 r zr1 => ⟨ι', k1, r, zr1⟩⟩) fun u s' ⟨v, H', I', rv, ι', k1, r, zr1⟩ => ?_
    rcases escD_plain e1 with ⟨p, rfl, rfl⟩ | ⟨i, ds, e2, hi, rfl, rfl⟩
    · exact ⟨v, H', I', rv, k v ι' H' k1 r zr1⟩
    · rw [e2] at r
      have hs : σ[i]? = some (some v) := r
      obtain ⟨w, hw, l, p, xs, ev, hp, hb, hn, rl⟩ := zr1.slot i _ hi
      rw [hs] at hw; cases hw
      obtain ⟨o, I2⟩ := I'.lock hp trivial
      have k2 : Kp ι' H' ι' (upd H' p (.frz o (.lst xs))) := Kp.at_ hp rfl (fun _ _ _ q => by cases q)
      have rp : Rep W ι' (upd H' p (.frz o (.lst xs))) (.lst ds) v := by
        unfold Rep
        exact ⟨l, p, xs, ev, .inl ⟨o, upd_same⟩, rl.kp k2⟩
      refine ⟨v, _, I2, rv, k v ι' _ (k1.trans k2) ⟨rfl, rp⟩ ?_⟩
      have hil : i < x.2.1.length := (List.getElem?_eq_some_iff.mp hi).1
      refine ⟨zr1.st.same k2 fun a ha u e => by rw [upd_ne (fun q : a = p => hn (q ▸ ha))]; exact e, zr1.pre, zr1.new, fun b u x n => by rw [upd_ne (fun q => by rw [q, hb.1] at x; cases x)]; exact zr1.keep b u x n, zr1.newP, fun b u x => by rw [upd_ne (fun q => by rw [q, hb.2] at x; cases x)]; exact zr1.keepP b u x, by simp [zr1.len], fun j dv hj => ?_, fun j1 j2 dv dv' a' h1 o1 h2 o2 s1 s2 => ?_⟩
      · by_cases hji : j = i
        · subst hji
          simp only [List.getElem?_set_self hil] at hj
          cases hj
          exact ⟨v, hs, rfl, rp⟩
        · simp only [List.getElem?_set_ne (Ne.symm hji)] at hj
          obtain ⟨u', hu', r'⟩ := zr1.slot j dv hj
          refine ⟨u', hu', r'.off k2 hb fun ho e => hji ?_⟩
          exact zr1.dis j i dv _ p hj ho hi rfl (by rw [hu', e]) (by rw [hs, ev])
      · have f : ∀ {j : Nat} {dv : DV}, (x.2.1.set i (some (.imm (.lst ds))))[j]? = some (some dv) → dv.isOwn = true → x.2.1[j]? = some (some dv) := fun {j dv} hj ho => by
          by_cases hji : j = i
          · subst hji
            rw [List.getElem?_set_self hil] at hj
            cases hj; cases ho
          · rw [List.getElem?_set_ne (Ne.symm hji)] at hj
            exact hj
        exact zr1.dis j1 j2 dv dv' a' (f h1 o1) o1 (f h2 o2) o2 s1 s2
/-! ### arguments -/
def fNil : EvA := fun z => some ([], z)
def fCons (f : Ev) (g : EvA) : EvA := fun z => (f z).bind fun x => (g x.2).map fun y => (x.1 :: y.1, y.2)
theorem pa_nilD : PA X [] (tevA W B fNil) := by
  refine pa_mono pa_nil fun σ H Q q => ?_
  obtain ⟨ι, z, ds, z', zr, e1, k⟩ := q
  cases e1
  exact k [] ι H .refl .nil zr
theorem pa_consD {es : List Expr} {g : EvA} (ha : PE X e (tev W B fa)) (hr : PA X es (tevA W B g)) (hs : starEach (e :: es) X.env = (false, eval e X.env) :: starEach es X.env) : PA X (e :: es) (tevA W B (fCons fa g)) := by
  refine pa_mono (pa_cons ha hr hs) fun σ H Q q => ?_
  obtain ⟨ι, z, ds, z', zr, e1, k⟩ := q
  unfold fCons at e1
  cases ea : fa z with
  | none => rw [ea] at e1; cases e1
  | some x =>
    rw [ea, Option.bind_some] at e1
    cases eb : g x.2 with
    | none => rw [eb] at e1; cases e1
    | some y =>
      rw [eb] at e1; cases e1
      exact ⟨ι, z, x.1, x.2, zr, ea, fun v ι1 H1 k1 r1 zr1 => ⟨ι1, x.2, y.1, y.2, zr1, eb, fun vs ι2 H2 k2 r2 zr2 => k (v :: vs) ι2 H2 (k1.trans k2) (.cons (r1.kp k2) r2) zr2⟩⟩
/-- *e, .. : the items of a list or tuple -/
def itemsOf : D → Option (List D)
  | .lst ds => some ds
  | .tup ds => some ds
  | _ => none
def fStar (f : Ev) (g : EvA) : EvA := fun z => (f z).bind fun x => (rd x.2 x.1).bind fun d => (itemsOf d).bind fun ds => (g x.2).map fun y => (ds ++ y.1, y.2)
theorem RepL.paired {ι : List Addr} {H : Hp} {σ : L2.St} : ∀ {ds : List D} {vs : List V}, RepL W ι H ds vs → Paired (XRep W ι H σ) ds vs
  | [], _, h => by unfold RepL at h; subst h; exact .nil
  | d :: ds, _, h => by
    unfold RepL at h
    obtain ⟨v, r, rfl, p, h1, h2⟩ := h
    exact .cons (XRep.of p h1) h2.paired
theorem paired_app {α β : Type} {F : α → β → Prop} : ∀ {l1 l2 : List α} {m1 m2 : List β}, Paired F l1 m1 → Paired F l2 m2 → Paired F (l1 ++ l2) (m1 ++ m2)
  | _, _, _, _, .nil, h => h
  | _, _, _, _, .cons r t, h => .cons r (paired_app t h)
theorem pa_starD (hK : X.K = W.K) {es : List Expr} {g : EvA} {p : Pos} (ha : PE X e (tev W B fa)) (hr : PA X es (tevA W B g)) (hs : starEach (.Starred e p :: es) X.env = (true, eval e X.env) :: starEach es X.env) : PA X (.Starred e p :: es) (tevA W B (fStar fa g)) := by
  refine pa_mono (StX.pa_star ha hr hs) fun σ H Q q => ?_
  obtain ⟨ι, z, ds, z', zr, e1, k⟩ := q
  unfold fStar at e1
  cases ea : fa z with
  | none => rw [ea] at e1; cases e1
  | some x =>
    rw [ea, Option.bind_some] at e1
    cases e2 : rd x.2 x.1 with
    | none => rw [e2] at e1; cases e1
    | some d =>
      rw [e2, Option.bind_some] at e1
      cases e3 : itemsOf d with
      | none => rw [e3] at e1; cases e1
      | some ds1 =>
        rw [e3, Option.bind_some] at e1
        cases eb : g x.2 with
        | none => rw [eb] at e1; cases e1
        | some y =>
          rw [eb] at e1; cases e1
          refine ⟨ι, z, x.1, x.2, zr, ea, fun v ι1 H1 k1 r1 zr1 => ?_⟩
          have rr := rd_rep zr1 r1 e2
          have fin : ∀ a xs, v = .ref a → (SqT X.K H1 a xs ∨ SqL X.K H1 a xs) → RepL W ι1 H1 ds1 xs → ∃ a xs, v = V.ref a ∧ (SqT X.K H1 a xs ∨ SqL X.K H1 a xs) ∧ tevA W B g σ H1 (fun ys H2 => Q (xs ++ ys) H2) := fun a xs ev sq rl =>
            ⟨a, xs, ev, sq, ι1, x.2, y.1, y.2, zr1, eb, fun vs ι2 H2 k2 r2 zr2 => k _ ι2 H2 (k1.trans k2) (paired_app (rl.kp k2).paired r2) zr2⟩
          cases d with
          | lst l =>
            cases e3
            obtain ⟨_, a, xs, ev, hx, rl⟩ := rr
            exact fin a xs ev (.inr (hK ▸ hx.sq)) rl
          | tup l =>
            cases e3
            obtain ⟨_, hh⟩ := rr
            unfold Rep at hh
            obtain ⟨_, a, xs, ev, hx, rl⟩ := hh
            exact fin a xs ev (.inl (hK ▸ hx)) rl
          | _ => cases e3
/-! ### displays -/
def okLen (ds : List D) : Bool := Nat.ble ds.length 16777216
theorem okLen_le {ds : List D} (h : okLen ds = true) : ds.length ≤ sizeLine := by rw [sizeLine_eq]; exact Nat.le_of_ble_eq_true h
def fDsp (g : EvA) : EvA := fun z => (g z).bind fun x => if x.1.all D.plain && okLen x.1 then some x else none
def fTup (g : EvA) : Ev := fun z => (g z).bind fun x => if x.1.all D.plain && okLen x.1 then some (.tup x.1, x.2) else none
theorem paired_repL {ι : List Addr} {H : Hp} {σ : L2.St} : ∀ {ds : List D} {vs : List V}, Paired (XRep W ι H σ) ds vs → ds.all D.plain = true → RepL W ι H ds vs
  | _, _, .nil, _ => .nil
  | _, _, .cons r t, h => by
    rw [List.all_cons, Bool.and_eq_true] at h
    exact .cons h.1 (r.rep h.1) (paired_repL t h.2)
theorem pe_tupD {es : List Expr} {g : EvA} {n : Nat} (h : PA X es (tevA W B g)) : PE X (.Tuple es n pos) (tev W B (fTup g)) := by
  refine pe_mono (pe_tup h) fun σ H Q q => ?_
  obtain ⟨ι, z, d, z', zr, e1, k⟩ := q
  unfold fTup at e1
  cases ea : g z with
  | none => rw [ea] at e1; cases e1
  | some x =>
    rw [ea, Option.bind_some] at e1
    split at e1
    · rename_i hc
      rw [Bool.and_eq_true] at hc
      cases e1
      refine ⟨ι, z, x.1, x.2, zr, ea, fun vs ι1 H1 k1 r1 zr1 => ?_⟩
      have rl := paired_repL r1 hc.1
      have l := okLen_le hc.2
      refine ⟨by rw [← rl.length]; exact l, fun p hp => k _ ι1 _ (k1.trans (Kp.alloc hp)) ⟨rfl, ?_⟩ (zr1.alloc hp)⟩
      unfold Rep
      exact ⟨l, p, vs, rfl, SqT.of upd_same, rl.kp (Kp.alloc hp)⟩
    · cases e1
theorem pe_dspD {es : List Expr} {g : EvA} (h : PA X es (tevA W B g)) : PE X (.List es pos) (tfr W B (fDsp g)) := by
  refine pe_mono (pe_lst h) fun σ H Q q => ?_
  obtain ⟨ι, z, d, z', zr, e1, k⟩ := q
  unfold fDsp at e1
  cases ea : g z with
  | none => rw [ea] at e1; cases e1
  | some x =>
    rw [ea, Option.bind_some] at e1
    split at e1
    · rename_i hc
      rw [Bool.and_eq_true] at hc
      cases e1
      refine ⟨ι, z, d, z', zr, ea, fun vs ι1 H1 k1 r1 zr1 => ?_⟩
      have rl := paired_repL r1 hc.1
      have l := okLen_le hc.2
      exact ⟨by rw [← rl.length]; exact l, fun p hp => k p vs ι1 _ (k1.trans (Kp.alloc hp)) (zr1.alloc hp) (rl.kp (Kp.alloc hp)) l (k1.th p hp) upd_same (Fr.of zr1 hp)⟩
    · cases e1
/-! ### calls of defs -/
abbrev Fn := List D → Store → Option (D × Store)
/-- between a call and its end -/
structure CKp (ι : List Addr) (H : Hp) (ι' : List Addr) (H' : Hp) : Prop where
  pre : ι <+: ι'
  new : ∀ a ∈ ι', a ∉ ι → H a = none
  keep : ∀ b o, H b = some o → b ∉ ι → H' b = some o
/-- the promise of a def that computes g on data -/
def spD (W : Wd) (n : Nat) (g : Fn) : Sp := fun vs H Q _ => ∃ ι S ds d S', ds.length = n ∧ Paired (Rep W ι H) ds vs ∧ StRep W ι H S ∧ g ds S = some (d, S') ∧ ∀ v ι' H', CKp ι H ι' H' → StRep W ι' H' S' → d.plain = true → Rep W ι' H' d v → Q v H'
def lendD (z : Z) : D → Option D
  | .bor i => (match z.1[i]? with
    | some (some (.own ds)) => some (.brw ds)
    | some (some (.brw ds)) => some (.brw ds)
    | _ => none)
  | .brw _ => none
  | d => some d
def lendAll (z : Z) : List D → Option (List D)
  | [] => some []
  | d :: ds => (lendD z d).bind fun x => (lendAll z ds).map fun r => x :: r
theorem lendD_rep {ι : List Addr} {H : Hp} {σ : L2.St} {z : Z} (zr : ZR W B ι H σ z) {d d' : D} {v : V} (h : XRep W ι H σ d v) (e : lendD z d = some d') : Rep W ι H d' v := by
  cases d with
  | bor i =>
    have hs : σ[i]? = some (some v) := h
    have e : (match z.1[i]? with
      | some (some (.own ds)) => some (D.brw ds)
      | some (some (.brw ds)) => some (D.brw ds)
      | _ => none) = some d' := e
    split at e
    · rename_i ds q
      cases e
      obtain ⟨u, hu, l, a, xs, ea, ha, _, n, r⟩ := zr.slot i _ q
      rw [hs] at hu; cases hu
      unfold Rep
      exact ⟨l, a, xs, ea, ha, n, r⟩
    · rename_i ds q
      cases e
      obtain ⟨u, hu, l, a, xs, ea, ha, _, _, n, r⟩ := zr.slot i _ q
      rw [hs] at hu; cases hu
      unfold Rep
      exact ⟨l, a, xs, ea, ha, n, r⟩
    · cases e
  | brw _ => cases e
  | _ => cases e; exact h.2
theorem lendAll_rep {ι : List Addr} {H : Hp} {σ : L2.St} {z : Z} (zr : ZR W B ι H σ z) : ∀ {ds ds' : List D} {vs : List V}, Paired (XRep W ι H σ) ds vs → lendAll z ds = some ds' → Paired (Rep W ι H) ds' vs
  | _, _, _, .nil, e => by cases e; exact .nil
  | d :: ds, _, _, .cons r t, e => by
    unfold lendAll at e
    cases e1 : lendD z d with
    | none => rw [e1] at e; cases e
    | some x =>
      rw [e1, Option.bind_some] at e
      cases e2 : lendAll z ds with
      | none => rw [e2] at e; cases e
      | some y => rw [e2] at e; cases e; exact .cons (lendD_rep zr r e1) (lendAll_rep zr t e2)
def fCall (n : Nat) (g : Fn) (f : EvA) : Ev := fun z => (f z).bind fun x => (lendAll x.2 x.1).bind fun ds => if ds.length = n then (g ds x.2.2).map fun r => (r.1, (x.2.1, r.2)) else none
/-- behind a call -/
theorem CKp.kp {ι ι' : List Addr} {H H' : Hp} {S' : Store} (k : CKp ι H ι' H') (st : StRep W ι' H' S') (hfz : ∀ a ∈ ι, ∃ o, H a = some o ∧ fzn o = false) : Kp ι H ι' H' where
  pre := k.pre
  new := fun a ha n C dx fs e => by rw [k.new a ha n] at e; cases e
  fz := fun b o e s => k.keep b o e fun hb => by
    obtain ⟨o', e', f'⟩ := hfz b hb
    rw [e] at e'; cases e'; rw [s] at f'; cases f'
  ins := fun b C dx fs e n => k.keep b _ e n
  th := fun b e => by
    cases q : H b with
    | none => rfl
    | some o =>
      by_cases hb : b ∈ ι
      · obtain ⟨t, ht⟩ := k.pre
        obtain ⟨o', e', _⟩ := st.mem (a := b) (by rw [← ht]; exact List.mem_append_left _ hb)
        rw [e] at e'; cases e'
      · rw [k.keep b o q hb] at e; cases e
theorem DRep.ckp {ι ι' : List Addr} {H H' : Hp} {v : V} (k : Kp ι H ι' H') (c : CKp ι H ι' H') : ∀ {dv : DV}, DRep W B ι H v dv → DRep W B ι' H' v dv
  | .imm _, h => ⟨h.1, h.2.kp k h.1⟩
  | .own _, h => by obtain ⟨l, a, xs, e, x, b, i, r⟩ := h; exact ⟨l, a, xs, e, c.keep a _ x i, b, (fun q => by rw [c.new a q i] at x; cases x), r.kp k⟩
  | .oT _, h => by obtain ⟨l, a, xs, e, x, b, i, r⟩ := h; exact ⟨l, a, xs, e, c.keep a _ x i, b, (fun q => by rw [c.new a q i] at x; cases x), r.kp k⟩
  | .oK _, h => by obtain ⟨l, a, xs, e, x, b, i, r⟩ := h; exact ⟨l, a, xs, e, c.keep a _ x i, b, (fun q => by rw [c.new a q i] at x; cases x), r.kp k⟩
  | .brw _, h => by obtain ⟨l, a, xs, e, x, b, n, i, r⟩ := h; exact ⟨l, a, xs, e, c.keep a _ x i, b, n, (fun q => by rw [c.new a q i] at x; cases x), r.kp k⟩
theorem ZR.call {ι ι' : List Addr} {H H' : Hp} {σ : L2.St} {z : Z} {S' : Store} (zr : ZR W B ι H σ z) (c : CKp ι H ι' H') (st : StRep W ι' H' S') : ZR W B ι' H' σ (z.1, S') := by
  have k : Kp ι H ι' H' := c.kp st fun a ha => zr.st.mem ha
  refine ⟨st, zr.pre.trans c.pre, fun a ha n => ?_, fun b o e n => ?_, fun a ha => ?_, fun b o e => ?_, zr.len, fun i dv x => ?_, zr.dis⟩
  · by_cases hi : a ∈ ι
    · exact zr.new a hi n
    · have hn := c.new a ha hi
      cases q : B.H a with
      | none => rfl
      | some o => rw [zr.keep a o q n] at hn; cases hn
  · refine c.keep b o (zr.keep b o e n) fun hb => ?_
    rw [zr.new b hb n] at e; cases e
  · by_cases hi : a ∈ ι
    · exact zr.newP a hi
    · have hn := c.new a ha hi
      cases q : B.P a with
      | none => rfl
      | some o => rw [zr.keepP a o q] at hn; cases hn
  · refine c.keep b o (zr.keepP b o e) fun hb => ?_
    rw [zr.newP b hb] at e; cases e
  · obtain ⟨v, hv, r⟩ := zr.slot i dv x
    exact ⟨v, hv, r.ckp k c⟩
theorem tev_call {n : Nat} {g : Fn} {f : EvA} {E : XK} (σ : L2.St) (H : Hp) (Q : VK) (q : tev W B (fCall n g f) σ H Q) : tCall (spD W n g) [] E (tevA W B f) σ H Q := by
  obtain ⟨ι, z, d, z', zr, e1, k⟩ := q
  unfold fCall at e1
  cases ea : f z with
  | none => rw [ea] at e1; cases e1
  | some x =>
    rw [ea, Option.bind_some] at e1
    cases e2 : lendAll x.2 x.1 with
    | none => rw [e2] at e1; cases e1
    | some ds =>
      rw [e2, Option.bind_some] at e1
      split at e1
      · rename_i hn
        cases e3 : g ds x.2.2 with
        | none => rw [e3] at e1; cases e1
        | some r =>
          rw [e3] at e1; cases e1
          refine ⟨ι, z, x.1, x.2, zr, ea, fun vs ι1 H1 k1 r1 zr1 => ?_⟩
          show spD W n g (vs ++ []) H1 Q E
          rw [List.append_nil]
          refine ⟨ι1, x.2.2, ds, r.1, r.2, hn, lendAll_rep zr1 r1 e2, zr1.st, e3, fun v ι2 H2 c2 st2 p rp => ?_⟩
          exact k v ι2 H2 (k1.trans (c2.kp st2 fun a ha => zr1.st.mem ha)) (XRep.of p rp) (zr1.call c2 st2)
      · cases e1
/-- a def under a name -/
structure Cal (P : Program) (w : World) (K : PySem.W.Frag) (mg : Str → Option Value) (base : Heap) (W : Wd) (k : Nat) (x : Str) (n : Nat) (g : Fn) : Prop where
  ex : ∃ (f : Addr) (fd : FuncData) (ps : List Str), FnG P w K mg base k f fd ps (spD W n g) ∧ mg x = some (.ref f) ∧ PySem.W.keepIn K (.ref f) = true ∧ Binds K fd ps []
theorem pe_callD {n k j : Nat} {g : Fn} {f : EvA} {x : Str} {es : List Expr} {p : Pos} (cl : Cal X.prog X.w X.K X.mg X.base W k x n g) (hr : Room j X.A) (hgd : X.A.guards = some []) (hk : k ≤ j) (hg : Gl X x) (ha : PA X (e :: es) (tevA W B f)) (hdb : (x == ("__debug__" : Str)) = false)
    (he : starEach (e :: es) X.env = (false, eval e X.env) :: starEach es X.env) (hpl : (backTo pos (starEach es X.env)).any (·.1) = false) : PE X (.Call (.Name x p) (e :: es) [] pos) (tev W B (fCall n g f)) := by
  obtain ⟨fa, fd, ps, F, hm, kp, b⟩ := cl.ex
  exact pe_mono (pe_callG F (hr.mono hk) hgd hg hm kp b ha hdb he hpl) (tev_call (E := fun _ _ _ => False))
theorem pe_call0D {n k j : Nat} {g : Fn} {x : Str} {p : Pos} (cl : Cal X.prog X.w X.K X.mg X.base W k x n g) (hr : Room j X.A) (hgd : X.A.guards = some []) (hk : k ≤ j) (hg : Gl X x) (hdb : (x == ("__debug__" : Str)) = false) : PE X (.Call (.Name x p) [] [] pos) (tev W B (fCall n g fNil)) := by
  obtain ⟨fa, fd, ps, F, hm, kp, b⟩ := cl.ex
  refine pe_mono (pe_call0G (E := fun _ _ _ => False) F (hr.mono hk) hgd hg hm kp b hdb) fun σ H Q q => ?_
  have h := tev_call (E := fun _ _ _ => False) σ H Q q
  obtain ⟨ι, z, ds, z', zr, e1, k⟩ := h
  cases e1
  exact k [] ι H .refl .nil zr
/-! ### built-ins called by name: values in, lasting data out -/
def rdAll (z : Z) : List D → Option (List D)
  | [] => some []
  | d :: ds => (rd z d).bind fun x => (rdAll z ds).map fun r => x :: r
theorem rdAll_rep {ι : List Addr} {H : Hp} {σ : L2.St} {z : Z} (zr : ZR W B ι H σ z) : ∀ {ds ds' : List D} {vs : List V}, Paired (XRep W ι H σ) ds vs → rdAll z ds = some ds' → Paired (RRep W ι H) ds' vs
  | _, _, _, .nil, e => by cases e; exact .nil
  | d :: ds, _, _, .cons r t, e => by
    unfold rdAll at e
    cases e1 : rd z d with
    | none => rw [e1] at e; cases e
    | some x =>
      rw [e1, Option.bind_some] at e
      cases e2 : rdAll z ds with
      | none => rw [e2] at e; cases e
      | some y => rw [e2] at e; cases e; exact .cons (rd_rep zr r e1) (rdAll_rep zr t e2)
def fBc (h : List D → Option D) (f : EvA) : Ev := fun z => (f z).bind fun x => (rdAll x.2 x.1).bind fun ds => (h ds).map fun d => (d, x.2)
def BcOk (W : Wd) (r : List V → Hp → VK → Prop) (h : List D → Option D) : Prop := ∀ ι H ds vs d Q, h ds = some d → Paired (RRep W ι H) ds vs → (∀ u H', (∀ b o, H b = some o → H' b = some o) → d.plain = true → Rep W ι H' d u → Q u H') → r vs H Q
theorem tev_bc {r : List V → Hp → VK → Prop} {h : List D → Option D} {f : EvA} (ok : BcOk W r h) (σ : L2.St) (H : Hp) (Q : VK) (q : tev W B (fBc h f) σ H Q) : tCB r (tevA W B f) σ H Q := by
  obtain ⟨ι, z, d, z', zr, e1, k⟩ := q
  unfold fBc at e1
  cases ea : f z with
  | none => rw [ea] at e1; cases e1
  | some x =>
    rw [ea, Option.bind_some] at e1
    cases e2 : rdAll x.2 x.1 with
    | none => rw [e2] at e1; cases e1
    | some ds =>
      rw [e2, Option.bind_some] at e1
      cases e3 : h ds with
      | none => rw [e3] at e1; cases e1
      | some d' =>
        rw [e3] at e1; cases e1
        refine ⟨ι, z, x.1, x.2, zr, ea, fun vs ι1 H1 k1 r1 zr1 => ?_⟩
        exact ok ι1 H1 ds vs d Q e3 (rdAll_rep zr1 r1 e2) fun u H' sm p rp => k u ι1 H' (k1.trans (Kp.same sm)) (XRep.of p rp) (zr1.same sm)
theorem pe_bcD {id : String} {r : List V → Hp → VK → Prop} {h : List D → Option D} {f : EvA} {x : Str} {es : List Expr} {p : Pos} (hc : CallR X (.builtin id) r) (ok : BcOk W r h) (hg : Gl X x) (hm : X.mg x = none) (hv : bootBuiltins x = some (.builtin id)) (ha : PA X (e :: es) (tevA W B f)) (hn : x ≠ "__name__") (hdb : (x == ("__debug__" : Str)) = false)
    (he : starEach (e :: es) X.env = (false, eval e X.env) :: starEach es X.env) (hpl : (backTo pos (starEach es X.env)).any (·.1) = false) : PE X (.Call (.Name x p) (e :: es) [] pos) (tev W B (fBc h f)) :=
  pe_mono (pe_callB hc hg hm hv ha hn hdb he hpl) (tev_bc ok)
theorem pe_btD {id : String} {r : List V → Hp → VK → Prop} {h : List D → Option D} {f : EvA} {x : Str} {es : List Expr} {p : Pos} (hc : CallR X (.type id) r) (ok : BcOk W r h) (hg : Gl X x) (hm : X.mg x = none) (hv : bootBuiltins x = some (.type id)) (ha : PA X (e :: es) (tevA W B f)) (hn : x ≠ "__name__") (hdb : (x == ("__debug__" : Str)) = false)
    (he : starEach (e :: es) X.env = (false, eval e X.env) :: starEach es X.env) (hpl : (backTo pos (starEach es X.env)).any (·.1) = false) : PE X (.Call (.Name x p) (e :: es) [] pos) (tev W B (fBc h f)) :=
  pe_mono (pe_callTy hc hg hm hv ha hn hdb he hpl) (tev_bc ok)
/-- .. a fresh list out -/
def fBl (h : List D → Option (List D)) (f : EvA) : EvA := fun z => (f z).bind fun x => (rdAll x.2 x.1).bind fun ds => (h ds).map fun d => (d, x.2)
def BlOk (W : Wd) (r : List V → Hp → VK → Prop) (h : List D → Option (List D)) : Prop := ∀ ι H ds vs d Q, h ds = some d → Paired (RRep W ι H) ds vs → (∀ p xs, H p = none → d.length ≤ sizeLine → RepL W ι H d xs → Q (.ref p) (upd H p (.lst xs))) → r vs H Q
theorem tfr_bl {r : List V → Hp → VK → Prop} {h : List D → Option (List D)} {f : EvA} (ok : BlOk W r h) (σ : L2.St) (H : Hp) (Q : VK) (q : tfr W B (fBl h f) σ H Q) : tCB r (tevA W B f) σ H Q := by
  obtain ⟨ι, z, d, z', zr, e1, k⟩ := q
  unfold fBl at e1
  cases ea : f z with
  | none => rw [ea] at e1; cases e1
  | some x =>
    rw [ea, Option.bind_some] at e1
    cases e2 : rdAll x.2 x.1 with
    | none => rw [e2] at e1; cases e1
    | some ds =>
      rw [e2, Option.bind_some] at e1
      cases e3 : h ds with
      | none => rw [e3] at e1; cases e1
      | some d' =>
        rw [e3] at e1; cases e1
        refine ⟨ι, z, x.1, x.2, zr, ea, fun vs ι1 H1 k1 r1 zr1 => ?_⟩
        exact ok ι1 H1 ds vs d Q e3 (rdAll_rep zr1 r1 e2) fun p xs hp l rl => k p xs ι1 _ (k1.trans (Kp.alloc hp)) (zr1.alloc hp) (rl.kp (Kp.alloc hp)) l (k1.th p hp) upd_same (Fr.of zr1 hp)
theorem pe_blD {id : String} {r : List V → Hp → VK → Prop} {h : List D → Option (List D)} {f : EvA} {x : Str} {es : List Expr} {p : Pos} (hc : CallR X (.builtin id) r) (ok : BlOk W r h) (hg : Gl X x) (hm : X.mg x = none) (hv : bootBuiltins x = some (.builtin id)) (ha : PA X (e :: es) (tevA W B f)) (hn : x ≠ "__name__") (hdb : (x == ("__debug__" : Str)) = false)
    (he : starEach (e :: es) X.env = (false, eval e X.env) :: starEach es X.env) (hpl : (backTo pos (starEach es X.env)).any (·.1) = false) : PE X (.Call (.Name x p) (e :: es) [] pos) (tfr W B (fBl h f)) :=
  pe_mono (pe_callB hc hg hm hv ha hn hdb he hpl) (tfr_bl ok)
theorem pe_bltD {id : String} {r : List V → Hp → VK → Prop} {h : List D → Option (List D)} {f : EvA} {x : Str} {es : List Expr} {p : Pos} (hc : CallR X (.type id) r) (ok : BlOk W r h) (hg : Gl X x) (hm : X.mg x = none) (hv : bootBuiltins x = some (.type id)) (ha : PA X (e :: es) (tevA W B f)) (hn : x ≠ "__name__") (hdb : (x == ("__debug__" : Str)) = false)
    (he : starEach (e :: es) X.env = (false, eval e X.env) :: starEach es X.env) (hpl : (backTo pos (starEach es X.env)).any (·.1) = false) : PE X (.Call (.Name x p) (e :: es) [] pos) (tfr W B (fBl h f)) :=
  pe_mono (pe_callTy hc hg hm hv ha hn hdb he hpl) (tfr_bl ok)
end
end DE
set_option Elab.async false
set_option linter.all false
set_option maxRecDepth 100000
set_option maxHeartbeats 4000000
/-! DE3: operations that may give a fresh list (which is kept at once); subscripts, slices, methods of built-in types. -/
namespace DE
open PySem PySem.Spec L2
/-- data, or a fresh list -/
def tmx (W : Wd) (B : Bs) (f : Ev) : TE := fun σ H Q => ∃ ι z d z', ZR W B ι H σ z ∧ f z = some (d, z') ∧ (∀ v ι' H', Kp ι H ι' H' → XRep W ι' H' σ d v → ZR W B ι' H' σ z' → Q v H') ∧
  ∀ ds p xs ι' H', d = .lst ds → Kp ι H ι' H' → ZR W B ι' H' σ z' → RepL W ι' H' ds xs → ds.length ≤ sizeLine → H' p = some (.lst xs) → Fr B ι' σ z' p → Q (.ref p) H'
section
variable {X : Cx} {W : Wd} {B : Bs} {a b c e : Expr} {fa fb fc : Ev} {pos : Pos}
theorem pe_mixD {f : Ev} (h : PE X e (tmx W B f)) : PE X e (tev W B f) := by
  refine ⟨fun pins s σ H Q I q => ?_⟩
  obtain ⟨ι, z, d, z', zr, e1, k⟩ := q
  refine thn (h.run pins s σ H (fun v H' => (∃ ι', Kp ι H ι' H' ∧ XRep W ι' H' σ d v ∧ ZR W B ι' H' σ z') ∨ ∃ ds p xs ι', d = .lst ds ∧ v = .ref p ∧ Kp ι H ι' H' ∧ ZR W B ι' H' σ z' ∧ RepL W ι' H' ds xs ∧ ds.length ≤ sizeLine ∧ H' p = some (.lst xs) ∧ Fr B ι' σ z' p) I
    ⟨ι, z, d, z', zr, e1, fun v ι' H' k1 r zr1 => .inl ⟨ι', k1, r, zr1⟩, fun ds p xs ι' H' ed k1 zr1 r l hp fr => .inr ⟨ds, p, xs, ι', ed, rfl, k1, zr1, r, l, hp, fr⟩⟩) fun u s' ⟨v, H', I', rv, q⟩ => ?_
  rcases q with ⟨ι', k1, r, zr1⟩ | ⟨ds, p, xs, ι', ed, ev, k1, zr1, r, l, hp, fr⟩
  · exact ⟨v, H', I', rv, k v ι' H' k1 r zr1⟩
  · obtain ⟨o, I2⟩ := I'.lock hp trivial
    have k2 : Kp ι' H' ι' (upd H' p (.frz o (.lst xs))) := Kp.at_ hp rfl (fun _ _ _ q => by cases q)
    subst ed
    refine ⟨v, _, I2, rv, k v ι' _ (k1.trans k2) ⟨rfl, ?_⟩ (zr1.at_fr fr k2)⟩
    unfold Rep
    exact ⟨l, p, xs, ev, .inl ⟨o, upd_same⟩, r.kp k2⟩
/-- what is asked of a two-place operation -/
def OpM (W : Wd) (r : R2) (op : D → D → Option D) : Prop := ∀ ι H x y v w d Q, op x y = some d → RRep W ι H x v → RRep W ι H y w → (∀ u H', (∀ b o, H b = some o → H' b = some o) → d.plain = true → Rep W ι H' d u → Q u H') →
  (∀ ds p xs, d = .lst ds → H p = none → ds.length ≤ sizeLine → RepL W ι H ds xs → Q (.ref p) (upd H p (.lst xs))) → r v w H Q
theorem OpOk.m {r : R2} {op : D → D → Option D} (h : OpOk W r op) : OpM W r op := fun ι H x y v w d Q e rx ry k _ => h ι H x y v w d Q e rx ry k
theorem tmx_bin {r : R2} {op : D → D → Option D} (ok : OpM W r op) (σ : L2.St) (H : Hp) (Q : VK) (q : tmx W B (fBin op fa fb) σ H Q) : tOp r (tev W B fa) (tev W B fb) σ H Q := by
  obtain ⟨ι, z, d, z', zr, e, k, kk⟩ := q
  unfold fBin at e
  cases ea : fa z with
  | none => rw [ea] at e; cases e
  | some x =>
    rw [ea, Option.bind_some] at e
    cases eb : fb x.2 with
    | none => rw [eb] at e; cases e
    | some y =>
      rw [eb, Option.bind_some] at e
      cases e1 : rd y.2 x.1 with
      | none => rw [e1] at e; cases e
      | some x' =>
        rw [e1, Option.bind_some] at e
        cases e2 : rd y.2 y.1 with
        | none => rw [e2] at e; cases e
        | some y' =>
          rw [e2, Option.bind_some] at e
          cases e3 : op x' y' with
          | none => rw [e3] at e; cases e
          | some d' =>
            rw [e3] at e; cases e
            refine ⟨ι, z, x.1, x.2, zr, ea, fun v ι1 H1 k1 r1 zr1 => ⟨ι1, x.2, y.1, y.2, zr1, eb, fun w ι2 H2 k2 r2 zr2 => ?_⟩⟩
            refine ok ι2 H2 x' y' v w d Q e3 (rd_rep zr2 (r1.kp k2) e1) (rd_rep zr2 r2 e2) (fun u H' sm p rp => ?_) fun ds p xs ed hp l rl => ?_
            · exact k u ι2 H' ((k1.trans k2).trans (Kp.same sm)) (XRep.of p rp) (zr2.same sm)
            · exact kk ds p xs ι2 _ ed ((k1.trans k2).trans (Kp.alloc hp)) (zr2.alloc hp) (rl.kp (Kp.alloc hp)) l upd_same (Fr.of zr2 hp)
theorem pe_binM {o : Operator} {r : R2} {op : D → D → Option D} (ho : OpR X (binaryOp o) r) (ok : OpM W r op) (ha : PE X a (tev W B fa)) (hb : PE X b (tev W B fb)) : PE X (.BinOp a o b pos) (tev W B (fBin op fa fb)) :=
  pe_mixD (pe_mono (pe_op ho ha hb) (tmx_bin ok))
theorem pe_ixD {r : R2} {op : D → D → Option D} (hr : IxR X r) (ok : OpM W r op) (ha : PE X a (tev W B fa)) (hb : PE X b (tev W B fb)) (hs : PlainIx b) : PE X (.Subscript a b pos) (tev W B (fBin op fa fb)) :=
  pe_mixD (pe_mono (pe_ix hr ha hb hs) (tmx_bin ok))
/-! ### slices -/
abbrev EvO := Z → Option (Option Int × Z)
def fNo : EvO := fun z => some (none, z)
def fPart (f : Ev) : EvO := fun z => (f z).bind fun x => match x.1 with
  | .int i => some (some i, x.2)
  | _ => none
def tov (W : Wd) (B : Bs) (f : EvO) : TO := fun σ H Q => ∃ ι z o z', ZR W B ι H σ z ∧ f z = some (o, z') ∧ ∀ ι' H', Kp ι H ι' H' → ZR W B ι' H' σ z' → Q o H'
theorem po_noD : PO X none (tov W B fNo) := ⟨fun pins s σ H Q I q => po_none.run pins s σ H Q I (by
  obtain ⟨ι, z, o, z', zr, e, k⟩ := q
  cases e
  exact k ι H .refl zr)⟩
theorem po_someD (h : PE X e (tev W B fa)) : PO X (some e) (tov W B (fPart fa)) := ⟨fun pins s σ H Q I q => (po_some h).run pins s σ H Q I (by
  obtain ⟨ι, z, o, z', zr, e1, k⟩ := q
  unfold fPart at e1
  cases ea : fa z with
  | none => rw [ea] at e1; cases e1
  | some x =>
    rw [ea, Option.bind_some] at e1
    obtain ⟨d, z1⟩ := x
    cases d with
    | int i =>
      cases e1
      refine ⟨ι, z, _, z1, zr, ea, fun v ι' H' k1 r zr1 => ⟨i, ?_, k ι' H' k1 zr1⟩⟩
      have := r.rep rfl
      unfold Rep at this
      exact this
    | _ => cases e1)⟩
def fSl (op : D → Option Int → Option Int → Option D) (fa : Ev) (fl fu : EvO) : Ev := fun z => (fa z).bind fun x => (fl x.2).bind fun l => (fu l.2).bind fun u => (rd u.2 x.1).bind fun x' => (op x' l.1 u.1).map fun d => (d, u.2)
def SlM (W : Wd) (r : V → Option Int → Option Int → Hp → VK → Prop) (op : D → Option Int → Option Int → Option D) : Prop := ∀ ι H x v lo hi d Q, op x lo hi = some d → RRep W ι H x v → (∀ u H', (∀ b o, H b = some o → H' b = some o) → d.plain = true → Rep W ι H' d u → Q u H') →
  (∀ ds p xs, d = .lst ds → H p = none → ds.length ≤ sizeLine → RepL W ι H ds xs → Q (.ref p) (upd H p (.lst xs))) → r v lo hi H Q
theorem pe_slD {r : V → Option Int → Option Int → Hp → VK → Prop} {op : D → Option Int → Option Int → Option D} {fl fu : EvO} {lo hi : Option Expr} {p2 : Pos} (hr : SlR X r) (ok : SlM W r op) (ha : PE X a (tev W B fa)) (hl : PO X lo (tov W B fl)) (hu : PO X hi (tov W B fu)) : PE X (.Subscript a (.Slice lo hi none p2) pos) (tev W B (fSl op fa fl fu)) := by
  refine pe_mixD (pe_mono (pe_slice hr ha hl hu) fun σ H Q q => ?_)
  obtain ⟨ι, z, d, z', zr, e, k, kk⟩ := q
  unfold fSl at e
  cases ea : fa z with
  | none => rw [ea] at e; cases e
  | some x =>
    rw [ea, Option.bind_some] at e
    cases eb : fl x.2 with
    | none => rw [eb] at e; cases e
    | some l =>
      rw [eb, Option.bind_some] at e
      cases ec : fu l.2 with
      | none => rw [ec] at e; cases e
      | some u =>
        rw [ec, Option.bind_some] at e
        cases e1 : rd u.2 x.1 with
        | none => rw [e1] at e; cases e
        | some x' =>
          rw [e1, Option.bind_some] at e
          cases e3 : op x' l.1 u.1 with
          | none => rw [e3] at e; cases e
          | some d' =>
            rw [e3] at e; cases e
            refine ⟨ι, z, x.1, x.2, zr, ea, fun v ι1 H1 k1 r1 zr1 => ⟨ι1, x.2, l.1, l.2, zr1, eb, fun ι2 H2 k2 zr2 => ⟨ι2, l.2, u.1, u.2, zr2, ec, fun ι3 H3 k3 zr3 => ?_⟩⟩⟩
            have kk3 := (k1.trans k2).trans k3
            refine ok ι3 H3 x' v l.1 u.1 d Q e3 (rd_rep zr3 (r1.kp (k2.trans k3)) e1) (fun u H' sm p rp => ?_) fun ds p xs ed hp l rl => ?_
            · exact k u ι3 H' (kk3.trans (Kp.same sm)) (XRep.of p rp) (zr3.same sm)
            · exact kk ds p xs ι3 _ ed (kk3.trans (Kp.alloc hp)) (zr3.alloc hp) (rl.kp (Kp.alloc hp)) l upd_same (Fr.of zr3 hp)
/-! ### methods of built-in types that change nothing -/
def tyD (T : String) : D → Bool
  | .str _ => T == "str"
  | .lst _ => T == "list"
  | _ => false
theorem tyD_v {ι : List Addr} {H : Hp} {T : String} {d : D} {v : V} (h : tyD T d = true) (r : RRep W ι H d v) : tyV W.K T v H := by
  cases d with
  | str s =>
    obtain ⟨_, r⟩ := r
    unfold Rep at r
    rw [r.1]
    exact eq_of_beq h
  | lst l =>
    obtain ⟨_, a, xs, e, hx, _⟩ := r
    subst e
    exact .inl ⟨eq_of_beq h, xs, hx.sq⟩
  | _ => cases h
def fMt (T : String) (op : D → List D → Option D) (fa : Ev) (f : EvA) : Ev := fun z => (fa z).bind fun x => (rd x.2 x.1).bind fun x0 => if tyD T x0 then (f x.2).bind fun y => (rd y.2 x.1).bind fun x' => (rdAll y.2 y.1).bind fun ds => (op x' ds).map fun d => (d, y.2) else none
def MtO (W : Wd) (r : V → List V → Hp → VK → Prop) (op : D → List D → Option D) : Prop := ∀ ι H x v ds vs d Q, op x ds = some d → RRep W ι H x v → Paired (RRep W ι H) ds vs → (∀ u H', (∀ b o, H b = some o → H' b = some o) → d.plain = true → Rep W ι H' d u → Q u H') →
  (∀ ds p xs, d = .lst ds → H p = none → ds.length ≤ sizeLine → RepL W ι H ds xs → Q (.ref p) (upd H p (.lst xs))) → r v vs H Q
theorem tmx_mt {T : String} {r : V → List V → Hp → VK → Prop} {op : D → List D → Option D} {f : EvA} (ok : MtO W r op) (σ : L2.St) (H : Hp) (Q : VK) (q : tmx W B (fMt T op fa f) σ H Q) : tBM W.K T r (tev W B fa) (tevA W B f) σ H Q := by
  obtain ⟨ι, z, d, z', zr, e, k, kk⟩ := q
  unfold fMt at e
  cases ea : fa z with
  | none => rw [ea] at e; cases e
  | some x =>
    rw [ea, Option.bind_some] at e
    cases e0 : rd x.2 x.1 with
    | none => rw [e0] at e; cases e
    | some x0 =>
      rw [e0, Option.bind_some] at e
      split at e
      · rename_i ht
        cases eb : f x.2 with
        | none => rw [eb] at e; cases e
        | some y =>
          rw [eb, Option.bind_some] at e
          cases e1 : rd y.2 x.1 with
          | none => rw [e1] at e; cases e
          | some x' =>
            rw [e1, Option.bind_some] at e
            cases e2 : rdAll y.2 y.1 with
            | none => rw [e2] at e; cases e
            | some ds =>
              rw [e2, Option.bind_some] at e
              cases e3 : op x' ds with
              | none => rw [e3] at e; cases e
              | some d' =>
                rw [e3] at e; cases e
                refine ⟨ι, z, x.1, x.2, zr, ea, fun v ι1 H1 k1 r1 zr1 => ⟨tyD_v ht (rd_rep zr1 r1 e0), ι1, x.2, y.1, y.2, zr1, eb, fun vs ι2 H2 k2 r2 zr2 => ?_⟩⟩
                refine ok ι2 H2 x' v ds vs d Q e3 (rd_rep zr2 (r1.kp k2) e1) (rdAll_rep zr2 r2 e2) (fun u H' sm p rp => ?_) fun ds p xs ed hp l rl => ?_
                · exact k u ι2 H' ((k1.trans k2).trans (Kp.same sm)) (XRep.of p rp) (zr2.same sm)
                · exact kk ds p xs ι2 _ ed ((k1.trans k2).trans (Kp.alloc hp)) (zr2.alloc hp) (rl.kp (Kp.alloc hp)) l upd_same (Fr.of zr2 hp)
      · cases e
variable {o : Expr} {es : List Expr} {name : Str} {apos cpos : Pos} {T id : String} {r : V → List V → Hp → VK → Prop}
theorem pe_mtD {op : D → List D → Option D} {f : EvA} (hK : X.K = W.K) (pa : PlainAttrs T) (slot : Slot T name id) (hty : typeOf (.builtin id) = pure (.type "method_descriptor")) (hm : MtR X id r) (ok : MtO W r op) (ho : PE X o (tev W B fa)) (ha : PA X (e :: es) (tevA W B f))
    (hbase : attributeBase o name X.env (eval o X.env) = eval o X.env)
    (hfew : ((backTo cpos (starEach (e :: es) X.env)).all (fun x => !x.1) && (backToKw cpos (keywordEach [] X.env)).all (fun x => x.1.isSome)
      && decide ((e :: es).length + ([] : List Keyword).length + (if ([] : List Keyword).isEmpty then 0 else 1) < 30)) = true)
    (hline : (apos.endLine == cpos.line) = true) (hs : starEach (e :: es) X.env = (false, eval e X.env) :: starEach es X.env) (hplain : (backTo cpos (starEach es X.env)).any (·.1) = false) :
    PE X (.Call (.Attribute o name apos) (e :: es) [] cpos) (tev W B (fMt T op fa f)) :=
  pe_mixD (pe_mono (pe_bm pa slot hty hm ho ha hbase hfew hline hs hplain) fun σ H Q q => by rw [hK]; exact tmx_mt ok σ H Q q)
theorem pe_mt0D {op : D → List D → Option D} (hK : X.K = W.K) (pa : PlainAttrs T) (slot : Slot T name id) (hty : typeOf (.builtin id) = pure (.type "method_descriptor")) (hm : MtR X id r) (ok : MtO W r op) (ho : PE X o (tev W B fa))
    (hbase : attributeBase o name X.env (eval o X.env) = eval o X.env) (hline : (apos.endLine == cpos.line) = true) :
    PE X (.Call (.Attribute o name apos) [] [] cpos) (tev W B (fMt T op fa fNil)) :=
  pe_mixD (pe_mono (pe_bm0 pa slot hty hm ho hbase hline) fun σ H Q q => by
    rw [hK]
    have h := tmx_mt ok σ H Q q
    obtain ⟨ι, z, d, z', zr, e, k⟩ := h
    refine ⟨ι, z, d, z', zr, e, fun v ι' H' k1 r1 zr1 => ?_⟩
    obtain ⟨t1, ι2, z2, ds, z3, zr2, e2, k2⟩ := k v ι' H' k1 r1 zr1
    cases e2
    exact ⟨t1, k2 [] ι2 H' .refl .nil zr2⟩)
/-! ### a slot's own list is changed -/
theorem ZR.own_set {ι : List Addr} {H : Hp} {σ : L2.St} {z : Z} {i : Nat} {ds ds' : List D} {p : Addr} {xs xs' : List V} (zr : ZR W B ι H σ z) (hi : z.1[i]? = some (some (.own ds))) (hs : σ[i]? = some (some (.ref p))) (hp : H p = some (.lst xs)) (l : ds'.length ≤ sizeLine) (r : RepL W ι H ds' xs') :
    Kp ι H ι (upd H p (.lst xs')) ∧ ZR W B ι (upd H p (.lst xs')) σ (z.1.set i (some (.own ds')), z.2) := by
  obtain ⟨v, hv, _, a, ys, ev, ha, hb, hn, _⟩ := zr.slot i _ hi
  rw [hs] at hv; cases hv; cases ev
  have k2 : Kp ι H ι (upd H p (.lst xs')) := Kp.at_ hp rfl (fun _ _ _ q => by cases q)
  have hil : i < z.1.length := (List.getElem?_eq_some_iff.mp hi).1
  refine ⟨k2, zr.st.same k2 fun a ha u e => by rw [upd_ne (fun q : a = p => hn (q ▸ ha))]; exact e, zr.pre, zr.new, fun b u x n => by rw [upd_ne (fun q => by rw [q, hb.1] at x; cases x)]; exact zr.keep b u x n, zr.newP, fun b u x => by rw [upd_ne (fun q => by rw [q, hb.2] at x; cases x)]; exact zr.keepP b u x, by simp [zr.len], fun j dv hj => ?_, fun j1 j2 dv dv' a' h1 o1 h2 o2 s1 s2 => ?_⟩
  · by_cases hji : j = i
    · subst hji
      simp only [List.getElem?_set_self hil] at hj
      cases hj
      exact ⟨_, hs, l, p, xs', rfl, upd_same, hb, hn, r.kp k2⟩
    · simp only [List.getElem?_set_ne (Ne.symm hji)] at hj
      obtain ⟨u', hu', r'⟩ := zr.slot j dv hj
      refine ⟨u', hu', r'.off k2 hb fun ho e => hji ?_⟩
      exact zr.dis j i dv _ p hj ho hi rfl (by rw [hu', e]) hs
  · have f : ∀ {j : Nat} {dv : DV}, (z.1.set i (some (.own ds')))[j]? = some (some dv) → dv.isOwn = true → ∃ dv2, z.1[j]? = some (some dv2) ∧ dv2.isOwn = true := fun {j dv} hj ho => by
      by_cases hji : j = i
      · subst hji; exact ⟨_, hi, rfl⟩
      · rw [List.getElem?_set_ne (Ne.symm hji)] at hj
        exact ⟨dv, hj, ho⟩
    obtain ⟨d1, g1, p1⟩ := f h1 o1
    obtain ⟨d2, g2, p2⟩ := f h2 o2
    exact zr.dis j1 j2 d1 d2 a' g1 p1 g2 p2 s1 s2
/-- x.m(..) where slot i owns the list: op gives the answer and the new list -/
def fOwn (i : Nat) (op : List D → List D → Option (D × List D)) (f : EvA) : Ev := fun z => match z.1[i]? with
  | some (some (.own _)) => (f z).bind fun y => (match y.2.1[i]? with
    | some (some (.own ds)) => (rdAll y.2 y.1).bind fun as => (op ds as).bind fun r => if okLen r.2 then some (r.1, (y.2.1.set i (some (.own r.2)), y.2.2)) else none
    | _ => none)
  | _ => none
def MuO (W : Wd) (r : V → List V → Hp → VK → Prop) (op : List D → List D → Option (D × List D)) : Prop := ∀ ι H l xs ds as vs d ds' Q, op ds as = some (d, ds') → H l = some (.lst xs) → RepL W ι H ds xs → ds.length ≤ sizeLine → ds'.length ≤ sizeLine → Paired (RRep W ι H) as vs → (∀ u xs', d.plain = true → Rep W ι H d u → RepL W ι H ds' xs' → Q u (upd H l (.lst xs'))) → r (.ref l) vs H Q
theorem tev_own {i : Nat} {op : List D → List D → Option (D × List D)} {f : EvA} (ok : MuO W r op) (σ : L2.St) (H : Hp) (Q : VK) (q : tev W B (fOwn i op f) σ H Q) : tBM W.K "list" r (tVar i) (tevA W B f) σ H Q := by
  obtain ⟨ι, z, d, z', zr, e, k⟩ := q
  unfold fOwn at e
  split at e
  · rename_i ds0 hi0
    obtain ⟨v, hv, _, p0, xs0, ev, hp0, hb, hn, r0⟩ := zr.slot i _ hi0
    subst ev
    cases eb : f z with
    | none => rw [eb] at e; cases e
    | some y =>
      rw [eb, Option.bind_some] at e
      split at e
      · rename_i ds hi
        cases e2 : rdAll y.2 y.1 with
        | none => rw [e2] at e; cases e
        | some as =>
          rw [e2, Option.bind_some] at e
          cases e3 : op ds as with
          | none => rw [e3] at e; cases e
          | some rr =>
            rw [e3, Option.bind_some] at e
            split at e
            · rename_i hl
              cases e
              refine ⟨_, hv, .inl ⟨rfl, xs0, SqL.of hp0⟩, ι, z, y.1, y.2, zr, eb, fun vs ι2 H2 k2 r2 zr2 => ?_⟩
              obtain ⟨v2, hv2, l2, p2, xs2, ev2, hp2, hb2, hn2, rl2⟩ := zr2.slot i _ hi
              rw [hv] at hv2; cases hv2; cases ev2
              refine ok ι2 H2 p0 xs2 ds as vs rr.1 rr.2 Q e3 hp2 rl2 l2 (okLen_le hl) (rdAll_rep zr2 r2 e2) fun u xs' pl rp rl' => ?_
              obtain ⟨k3, zr3⟩ := zr2.own_set hi hv hp2 (okLen_le hl) rl'
              exact k u ι2 _ (k2.trans k3) (XRep.of pl (rp.kp k3 pl)) zr3
            · cases e
      · cases e
  · cases e
theorem pe_ownD {i : Nat} {x : Str} {op : List D → List D → Option (D × List D)} {f : EvA} {xpos : Pos} (hK : X.K = W.K) (slot : Slot "list" name id) (hty : typeOf (.builtin id) = pure (.type "method_descriptor")) (hm : MtR X id r) (ok : MuO W r op) (hN : X.N[i]? = some x) (hv : Vis X.env.scope x) (hd : (x == ("__debug__" : Str)) = false) (hcd : (x == ("__classdict__" : Str)) = false) (ha : PA X (e :: es) (tevA W B f))
    (hbase : attributeBase (.Name x xpos) name X.env (eval (.Name x xpos) X.env) = eval (.Name x xpos) X.env)
    (hfew : ((backTo cpos (starEach (e :: es) X.env)).all (fun x => !x.1) && (backToKw cpos (keywordEach [] X.env)).all (fun x => x.1.isSome)
      && decide ((e :: es).length + ([] : List Keyword).length + (if ([] : List Keyword).isEmpty then 0 else 1) < 30)) = true)
    (hline : (apos.endLine == cpos.line) = true) (hs : starEach (e :: es) X.env = (false, eval e X.env) :: starEach es X.env) (hplain : (backTo cpos (starEach es X.env)).any (·.1) = false) :
    PE X (.Call (.Attribute (.Name x xpos) name apos) (e :: es) [] cpos) (tev W B (fOwn i op f)) :=
  pe_mono (pe_bm PySem.F.plainAttrs_list slot hty hm (pe_var hN hv hd hcd) ha hbase hfew hline hs hplain) fun σ H Q q => by rw [hK]; exact tev_own ok σ H Q q
/-- x.append(e): what is kept is lasting data -/
def fApp (i : Nat) (f : EvA) : Ev := fun z => match z.1[i]? with
  | some (some (.own _)) => (f z).bind fun y => (match y.2.1[i]?, y.1 with
    | some (some (.own ds)), [d] => if d.plain && Nat.blt ds.length 16777216 then some (.non, (y.2.1.set i (some (.own (ds ++ [d]))), y.2.2)) else none
    | _, _ => none)
  | _ => none
theorem tev_app {i : Nat} {f : EvA} (σ : L2.St) (H : Hp) (Q : VK) (q : tev W B (fApp i f) σ H Q) : tBM W.K "list" rAppend (tVar i) (tevA W B f) σ H Q := by
  obtain ⟨ι, z, d, z', zr, e, k⟩ := q
  unfold fApp at e
  split at e
  · rename_i ds0 hi0
    obtain ⟨v, hv, _, p0, xs0, ev, hp0, hb, hn, r0⟩ := zr.slot i _ hi0
    subst ev
    cases eb : f z with
    | none => rw [eb] at e; cases e
    | some y =>
      rw [eb, Option.bind_some] at e
      split at e
      · rename_i ds d1 hi ed
        split at e
        · rename_i hc
          rw [Bool.and_eq_true] at hc
          have hl : ds.length < 16777216 := by
            have := Nat.le_of_ble_eq_true hc.2
            omega
          cases e
          refine ⟨_, hv, .inl ⟨rfl, xs0, SqL.of hp0⟩, ι, z, y.1, y.2, zr, eb, fun vs ι2 H2 k2 r2 zr2 => ?_⟩
          obtain ⟨v2, hv2, l2, p2, xs2, ev2, hp2, hb2, hn2, rl2⟩ := zr2.slot i _ hi
          rw [hv] at hv2; cases hv2; cases ev2
          rw [ed] at r2
          cases r2 with
          | cons rx rt =>
            cases rt
            rename_i vx
            refine ⟨p0, xs2, vx, rfl, rfl, hp2, by rw [← rl2.length, sizeLine_eq]; exact hl, ?_⟩
            obtain ⟨k3, zr3⟩ := zr2.own_set hi hv hp2 (ds' := ds ++ [d1]) (by rw [List.length_append, sizeLine_eq]; simp; omega) (rl2.append (.cons hc.1 (rx.rep hc.1) .nil))
            exact k .non ι2 _ (k2.trans k3) ⟨rfl, by unfold Rep; rfl⟩ zr3
        · cases e
      · cases e
  · cases e
theorem pe_appD {i : Nat} {x : Str} {f : EvA} {xpos : Pos} (hK : X.K = W.K) (hN : X.N[i]? = some x) (hv : Vis X.env.scope x) (hd : (x == ("__debug__" : Str)) = false) (hcd : (x == ("__classdict__" : Str)) = false) (ha : PA X (e :: es) (tevA W B f))
    (hbase : attributeBase (.Name x xpos) "append" X.env (eval (.Name x xpos) X.env) = eval (.Name x xpos) X.env)
    (hfew : ((backTo cpos (starEach (e :: es) X.env)).all (fun x => !x.1) && (backToKw cpos (keywordEach [] X.env)).all (fun x => x.1.isSome)
      && decide ((e :: es).length + ([] : List Keyword).length + (if ([] : List Keyword).isEmpty then 0 else 1) < 30)) = true)
    (hline : (apos.endLine == cpos.line) = true) (hs : starEach (e :: es) X.env = (false, eval e X.env) :: starEach es X.env) (hplain : (backTo cpos (starEach es X.env)).any (·.1) = false) :
    PE X (.Call (.Attribute (.Name x xpos) "append" apos) (e :: es) [] cpos) (tev W B (fApp i f)) :=
  pe_mono (pe_bm PySem.F.plainAttrs_list PySem.F.slot_list_append PySem.F.type_list_append mt_append (pe_var hN hv hd hcd) ha hbase hfew hline hs hplain) fun σ H Q q => by rw [hK]; exact tev_app σ H Q q
/-- pop(i), extend(list) -/
def ixOf (n : Nat) (i : Int) : Option Nat := if 0 ≤ i then (if i < n then some i.toNat else none) else if -(n : Int) ≤ i then some (i + n).toNat else none
def oPop : List D → List D → Option (D × List D)
  | ds, [.int i] => (ixOf ds.length i).bind fun k => (ds[k]?).map fun d => (d, ds.eraseIdx k)
  | _, _ => none
def oExt : List D → List D → Option (D × List D)
  | ds, [.lst es] => some (.non, ds ++ es)
  | _, _ => none
theorem rrep_int {ι : List Addr} {H : Hp} {i : Int} {v : V} (h : RRep W ι H (.int i) v) : v = .int i := by
  obtain ⟨_, h⟩ := h
  unfold Rep at h
  exact h
theorem seqIx {n k : Nat} {i : Int} (h : ixOf n i = some k) (hn : n ≤ sizeLine) : seqIndex? i n = some k ∧ -(2 ^ 63) ≤ i ∧ i < 2 ^ 63 ∧ k < n := by
  rw [sizeLine_eq] at hn
  unfold ixOf at h
  unfold seqIndex?
  split at h
  · split at h
    · cases h
      refine ⟨?_, by omega, by omega, by omega⟩
      have e1 : ¬ i < 0 := by omega
      have e2 : (decide (0 ≤ i) && decide (i < (n : Int))) = true := by simp; omega
      simp only [if_neg e1, if_pos e2]
    · cases h
  · split at h
    · cases h
      refine ⟨?_, by omega, by omega, by omega⟩
      have e1 : i < 0 := by omega
      have e2 : (decide (0 ≤ i + (n : Int)) && decide (i + (n : Int) < (n : Int))) = true := by simp; omega
      simp only [if_pos e1, if_pos e2]
    · cases h
theorem mu_pop : MuO W rPopAt oPop := by
  intro ι H l xs ds as vs d ds' Q e hp rl hl hl' ra k
  unfold oPop at e
  split at e
  · rename_i i
    cases e1 : ixOf ds.length i with
    | none => rw [e1] at e; cases e
    | some j =>
      rw [e1, Option.bind_some] at e
      cases e2 : ds[j]? with
      | none => rw [e2] at e; cases e
      | some d1 =>
        rw [e2] at e; cases e
        obtain ⟨h1, h2, h3, h4⟩ := seqIx e1 hl
        obtain ⟨u, hu, ru, pu⟩ := rl.get e2
        cases ra with
        | cons r1 rt =>
          cases rt
          refine ⟨l, xs, i, j, u, rfl, by rw [rrep_int r1], hp, h2, h3, by rw [← rl.length]; exact h1, hu, ?_⟩
          exact k u _ pu ru (rl.erase j)
  · cases e
def rExtR (K : PySem.W.Frag) : V → List V → Hp → VK → Prop := fun x vs H Q => ∃ l b xs zs, x = .ref l ∧ vs = [.ref b] ∧ H l = some (.lst xs) ∧ LsR K H b zs ∧ xs.length + zs.length ≤ sizeLine ∧ Q .non (upd H l (.lst (xs ++ zs)))
theorem rdM {pins : List (Addr × Obj)} {σ : L2.St} {H : Hp} {s : Shared} {l : Addr} {xs : List V} (I : Inv X pins σ H s) (hH : LsR X.K H l xs) : xs.length ≤ sizeLine ∧ ∃ (its : List Value) (n : Nat), Vals xs its ∧ xs.length = its.length ∧ s.heap.get? l = some { cls := .type "list", data := .seq its.toArray n } := by
  rcases hH with hH | ⟨its, n, e, z, r⟩
  · obtain ⟨z, its, n, r, e⟩ := hH.ok I.hok
    exact ⟨z, its, n, r, r.length, e⟩
  · have hl := r.length
    refine ⟨by rw [hl, Array.length_toList]; exact z, its.toList, n, r, hl, ?_⟩
    have := I.kIn _ _ e
    simpa using this
theorem mt_extR : MtR X "list.extend" (rExtR X.K) := by
  intro pins s σ H x vs v us Q I rx rv h
  obtain ⟨l, b, xs, zs, rfl, rfl, hH, hB, hz, q⟩ := h
  cases rx
  obtain ⟨u, rfl, ru⟩ := rv.one
  cases ru
  obtain ⟨z, its, n, r, hl, e⟩ := I.lstM hH
  obtain ⟨z2, its2, n2, r2, hl2, e2⟩ := rdM I hB
  have hsz : its.toArray.size + its2.toArray.size ≤ sizeLine := by rw [List.size_toArray, List.size_toArray]; omega
  have hlong : ¬ (!its.toArray.isEmpty && Builtin.List.listTooLong (its.toArray.size + its2.toArray.size)) = true := by
    rw [notLongL hsz, Bool.and_false]
    exact Bool.false_ne_true
  refine call_meets F.slot_list_extend ⟨_, e, rfl⟩ F.entry_list_extend (F.args_list_extend_2 _ _)
    (AutoSeq1.list_extend_list_list_0 l its.toArray n b its2.toArray n2 hlong (by rw [List.size_toArray]; omega) (by omega)) ⟨e, e2, ?_⟩
  refine ⟨.non, _, I.lset (its' := its ++ its2) hH e (by simp) (r.append r2) ?_, rfl, q⟩
  rw [List.length_append]
  omega
theorem mu_ext : MuO W (rExtR W.K) oExt := by
  intro ι H l xs ds as vs d ds' Q e hp rl hl hl' ra k
  unfold oExt at e
  split at e
  · rename_i es1
    cases e
    cases ra with
    | cons r1 rt =>
      cases rt
      obtain ⟨_, b, zs, ev, hb, rb⟩ := r1
      subst ev
      refine ⟨l, b, xs, zs, rfl, rfl, hp, hb, by rw [← rl.length, ← rb.length, ← List.length_append]; exact hl', ?_⟩
      exact k .non _ rfl (by unfold Rep; rfl) (rl.append rb)
  · cases e
end
end DE
set_option Elab.async false
set_option linter.all false
set_option maxRecDepth 100000
set_option maxHeartbeats 4000000
/-! DE4: targets, statements, loops. -/
namespace DE
open PySem PySem.Spec L2
inductive Fl where
  | nx | rt (d : D) | bk | ct
abbrev EvS := Z → Option (Fl × Z)
abbrev EvG := D → Z → Option Z
abbrev EvGs := List D → Z → Option Z
def Fin (W : Wd) (ι : List Addr) (H : Hp) (σ : L2.St) (D : Ends) : Fl → Prop
  | .nx => D.nx σ H
  | .bk => D.bk σ H
  | .ct => D.ct σ H
  | .rt d => ∀ v, d.plain = true → Rep W ι H d v → D.rt v H
/-- statements as data -/
def tss (W : Wd) (B : Bs) (f : EvS) : TS := fun D σ H => ∃ ι z fl z', ZR W B ι H σ z ∧ f z = some (fl, z') ∧ ∀ σ' ι' H', Kp ι H ι' H' → ZR W B ι' H' σ' z' → Fin W ι' H' σ' D fl
/-- a target as data -/
def tgv (W : Wd) (B : Bs) (g : EvG) : TG := fun v σ H Q => ∃ ι z d z', ZR W B ι H σ z ∧ d.plain = true ∧ Rep W ι H d v ∧ g d z = some z' ∧ ∀ σ' ι' H', Kp ι H ι' H' → ZR W B ι' H' σ' z' → Q σ' H'
def tgvs (W : Wd) (B : Bs) (g : EvGs) : TGs := fun vs σ H Q => ∃ ι z ds z', ZR W B ι H σ z ∧ RepL W ι H ds vs ∧ g ds z = some z' ∧ ∀ σ' ι' H', Kp ι H ι' H' → ZR W B ι' H' σ' z' → Q σ' H'
section
variable {X : Cx} {W : Wd} {B : Bs} {a b c e tg : Expr} {fa fb fc : Ev} {pos : Pos}
theorem ps_mono {st : Stmt} {t u : TS} (h : PS X st t) (m : ∀ D σ H, u D σ H → t D σ H) : PS X st u := ⟨fun pins s σ H D I q => h.run pins s σ H D I (m D σ H q)⟩
theorem pss_mono {st : List Stmt} {t u : TS} (h : PSs X st t) (m : ∀ D σ H, u D σ H → t D σ H) : PSs X st u := ⟨fun pins s σ H D I q => h.run pins s σ H D I (m D σ H q)⟩
theorem pg_mono {t u : TG} (h : PG X tg t) (m : ∀ v σ H Q, u v σ H Q → t v σ H Q) : PG X tg u := ⟨fun pins s σ H v w Q I r q => h.run pins s σ H v w Q I r (m v σ H Q q)⟩
theorem pgs_mono {ts : List Expr} {t u : TGs} (h : PGs X ts t) (m : ∀ v σ H Q, u v σ H Q → t v σ H Q) : PGs X ts u := ⟨fun pins s σ H v w Q I r q => h.run pins s σ H v w Q I r (m v σ H Q q)⟩
theorem pg_or {t u : TG} (h : PG X tg t) (h' : PG X tg u) : PG X tg (fun v σ H Q => t v σ H Q ∨ u v σ H Q) := ⟨fun pins s σ H v w Q I r q => q.elim (h.run pins s σ H v w Q I r) (h'.run pins s σ H v w Q I r)⟩
/-! ### a slot is set -/
theorem ZR.set {ι : List Addr} {H : Hp} {σ : L2.St} {z : Z} {i : Nat} {d : D} {v : V} (zr : ZR W B ι H σ z) (p : d.plain = true) (r : Rep W ι H d v) : ZR W B ι H (σ.set i (some v)) (z.1.set i (some (.imm d)), z.2) := by
  refine ⟨zr.st, zr.pre, zr.new, zr.keep, zr.newP, zr.keepP, by simp [zr.len], fun j dv hj => ?_, fun j1 j2 dv dv' a' h1 o1 h2 o2 s1 s2 => ?_⟩
  · by_cases hji : j = i
    · subst hji
      have hl : j < z.1.length := by
        have := (List.getElem?_eq_some_iff.mp hj).1
        simpa using this
      simp only [List.getElem?_set_self hl] at hj
      cases hj
      exact ⟨v, by rw [List.getElem?_set_self (by rw [← zr.len]; exact hl)], p, r⟩
    · simp only [List.getElem?_set_ne (Ne.symm hji)] at hj
      obtain ⟨u, hu, q⟩ := zr.slot j dv hj
      exact ⟨u, by rw [List.getElem?_set_ne (Ne.symm hji)]; exact hu, q⟩
  · have f : ∀ {j : Nat} {dv : DV}, (z.1.set i (some (.imm d)))[j]? = some (some dv) → dv.isOwn = true → j ≠ i ∧ z.1[j]? = some (some dv) := fun {j dv} hj ho => by
      by_cases hji : j = i
      · subst hji
        have hl : j < z.1.length := by
          have := (List.getElem?_eq_some_iff.mp hj).1
          simpa using this
        rw [List.getElem?_set_self hl] at hj
        cases hj; cases ho
      · rw [List.getElem?_set_ne (Ne.symm hji)] at hj
        exact ⟨hji, hj⟩
    obtain ⟨n1, g1⟩ := f h1 o1
    obtain ⟨n2, g2⟩ := f h2 o2
    rw [List.getElem?_set_ne (Ne.symm n1)] at s1
    rw [List.getElem?_set_ne (Ne.symm n2)] at s2
    exact zr.dis j1 j2 dv dv' a' g1 o1 g2 o2 s1 s2
/-- .. to a list of its own -/
theorem ZR.setOwn {ι : List Addr} {H : Hp} {σ : L2.St} {z : Z} {i : Nat} {dv : DV} {p : Addr} (zr : ZR W B ι H σ z) (fr : Fr B ι σ z p) (ho : dv.isOwn = true) (r : DRep W B ι H (.ref p) dv) : ZR W B ι H (σ.set i (some (.ref p))) (z.1.set i (some dv), z.2) := by
  refine ⟨zr.st, zr.pre, zr.new, zr.keep, zr.newP, zr.keepP, by simp [zr.len], fun j dv1 hj => ?_, fun j1 j2 dv1 dv' a' h1 o1 h2 o2 s1 s2 => ?_⟩
  · by_cases hji : j = i
    · subst hji
      have hl : j < z.1.length := by
        have := (List.getElem?_eq_some_iff.mp hj).1
        simpa using this
      simp only [List.getElem?_set_self hl] at hj
      cases hj
      exact ⟨_, by rw [List.getElem?_set_self (by rw [← zr.len]; exact hl)], r⟩
    · simp only [List.getElem?_set_ne (Ne.symm hji)] at hj
      obtain ⟨u, hu, q⟩ := zr.slot j dv1 hj
      exact ⟨u, by rw [List.getElem?_set_ne (Ne.symm hji)]; exact hu, q⟩
  · have f : ∀ {j : Nat} {dv2 : DV} {a' : Addr}, (z.1.set i (some dv))[j]? = some (some dv2) → dv2.isOwn = true → (σ.set i (some (.ref p)))[j]? = some (some (.ref a')) → (j = i ∧ a' = p) ∨ (j ≠ i ∧ z.1[j]? = some (some dv2) ∧ σ[j]? = some (some (.ref a'))) := fun {j dv2 a'} hj ho hs => by
      by_cases hji : j = i
      · subst hji
        have hl : j < z.1.length := by
          have := (List.getElem?_eq_some_iff.mp hj).1
          simpa using this
        rw [List.getElem?_set_self (by rw [← zr.len]; exact hl)] at hs
        cases hs
        exact .inl ⟨rfl, rfl⟩
      · rw [List.getElem?_set_ne (Ne.symm hji)] at hj hs
        exact .inr ⟨hji, hj, hs⟩
    rcases f h1 o1 s1 with ⟨e1, e2⟩ | ⟨n1, g1, t1⟩
    · rcases f h2 o2 s2 with ⟨e3, e4⟩ | ⟨n2, g2, t2⟩
      · rw [e1, e3]
      · exact (fr.o j2 dv' g2 o2 (by rw [t2, e2])).elim
    · rcases f h2 o2 s2 with ⟨e3, e4⟩ | ⟨n2, g2, t2⟩
      · exact (fr.o j1 dv1 g1 o1 (by rw [t1, e4])).elim
      · exact zr.dis j1 j2 dv1 dv' a' g1 o1 g2 o2 t1 t2
def gSet (i : Nat) : EvG := fun d z => some (z.1.set i (some (.imm d)), z.2)
theorem pg_nameD {i : Nat} {x : Str} (hN : X.N.Nodup) (hi : X.N[i]? = some x) (hx : Loc X.env.scope x) (hf : X.fn x = true ∨ X.env.scope.names.lookup x = some .local) : PG X (.Name x pos) (tgv W B (gSet i)) := by
  refine pg_mono (pg_name hN hi hx hf) fun v σ H Q q => ?_
  obtain ⟨ι, z, d, z', zr, p, r, e1, k⟩ := q
  cases e1
  exact k _ ι H .refl (zr.set p r)
def gsNil : EvGs := fun ds z => match ds with
  | [] => some z
  | _ => none
def gsCons (g : EvG) (gs : EvGs) : EvGs := fun ds z => match ds with
  | d :: r => (g d z).bind fun z1 => gs r z1
  | [] => none
theorem pgs_nilD : PGs X [] (tgvs W B gsNil) := by
  refine pgs_mono pgs_nil fun v σ H Q q => ?_
  obtain ⟨ι, z, ds, z', zr, r, e1, k⟩ := q
  unfold gsNil at e1
  split at e1
  · cases e1
    unfold RepL at r
    exact ⟨r, k σ ι H .refl zr⟩
  · cases e1
theorem pgs_consD {es : List Expr} {g : EvG} {gs : EvGs} (h1 : PG X e (tgv W B g)) (h2 : PGs X es (tgvs W B gs)) (hs : (assignEach (e :: es) X.env).map (·.2) = assign e X.env :: (assignEach es X.env).map (·.2)) : PGs X (e :: es) (tgvs W B (gsCons g gs)) := by
  refine pgs_mono (pgs_cons h1 h2 hs) fun v σ H Q q => ?_
  obtain ⟨ι, z, ds, z', zr, r, e1, k⟩ := q
  unfold gsCons at e1
  split at e1
  · rename_i d r1
    unfold RepL at r
    obtain ⟨v1, vs1, ev, p, rd1, rl⟩ := r
    cases e2 : g d z with
    | none => rw [e2] at e1; cases e1
    | some z1 =>
      rw [e2, Option.bind_some] at e1
      exact ⟨v1, vs1, ev, ι, z, d, z1, zr, p, rd1, e2, fun σ1 ι1 H1 k1 zr1 => ⟨ι1, z1, r1, z', zr1, rl.kp k1, e1, fun σ2 ι2 H2 k2 zr2 => k σ2 ι2 H2 (k1.trans k2) zr2⟩⟩
  · cases e1
/-- (a, b, ..) = a tuple or a list -/
def gTupD (n : Nat) (gs : EvGs) : EvG := fun d z => (itemsOf d).bind fun ds => if ds.length = n then gs ds z else none
theorem pg_tupD {es : List Expr} {m n : Nat} {gs : EvGs} (hK : X.K = W.K) (hc : X.calm = true) (h : PGs X es (tgvs W B gs)) (hn : (assignEach es X.env).length = n) (hst : (assignEach es X.env).findIdx? (·.1) = none) : PG X (.Tuple es m pos) (tgv W B (gTupD n gs)) := by
  refine pg_mono (pg_or (pg_tup hc h hn hst) (pg_unl hc h hn hst)) fun v σ H Q q => ?_
  obtain ⟨ι, z, d, z', zr, p, r, e1, k⟩ := q
  unfold gTupD at e1
  cases e2 : itemsOf d with
  | none => rw [e2] at e1; cases e1
  | some ds =>
    rw [e2, Option.bind_some] at e1
    split at e1
    · rename_i hl
      cases d with
      | tup l =>
        cases e2
        unfold Rep at r
        obtain ⟨_, a, xs, ev, hx, rl⟩ := r
        exact .inl ⟨a, xs, ev, hK ▸ hx, by rw [← rl.length]; exact hl, ι, z, ds, z', zr, rl, e1, k⟩
      | lst l =>
        cases e2
        unfold Rep at r
        obtain ⟨_, a, xs, ev, hx, rl⟩ := r
        exact .inr ⟨a, xs, ev, hK.symm ▸ hx.sq, by rw [← rl.length]; exact hl, ι, z, ds, z', zr, rl, e1, k⟩
      | _ => cases e2
    · cases e1
/-! ### statements -/
def sNx : EvS := fun z => some (.nx, z)
def sSeq (f g : EvS) : EvS := fun z => (f z).bind fun x => match x.1 with
  | .nx => g x.2
  | fl => some (fl, x.2)
theorem ss_nilD : PSs X [] (tss W B sNx) := by
  refine pss_mono pss_nil fun D σ H q => ?_
  obtain ⟨ι, z, fl, z', zr, e1, k⟩ := q
  cases e1
  exact k σ ι H .refl zr
theorem ss_consD {st : Stmt} {rest : List Stmt} {f g : EvS} (h1 : PS X st (tss W B f)) (h2 : PSs X rest (tss W B g)) : PSs X (st :: rest) (tss W B (sSeq f g)) := by
  refine pss_mono (pss_cons h1 h2) fun D σ H q => ?_
  obtain ⟨ι, z, fl, z', zr, e1, k⟩ := q
  unfold sSeq at e1
  cases ef : f z with
  | none => rw [ef] at e1; cases e1
  | some x =>
    rw [ef, Option.bind_some] at e1
    obtain ⟨fl1, z1⟩ := x
    refine ⟨ι, z, fl1, z1, zr, ef, fun σ1 ι1 H1 k1 zr1 => ?_⟩
    cases fl1 with
    | nx => exact ⟨ι1, z1, fl, z', zr1, e1, fun σ2 ι2 H2 k2 zr2 => k σ2 ι2 H2 (k1.trans k2) zr2⟩
    | bk => cases e1; exact k σ1 ι1 H1 k1 zr1
    | ct => cases e1; exact k σ1 ι1 H1 k1 zr1
    | rt d => cases e1; exact k σ1 ι1 H1 k1 zr1
/-- what is read at the end of an expression, lasting -/
def fPl (f : Ev) : Ev := fun z => (f z).bind fun x => if x.1.plain then some x else none
def sAsg (f : Ev) (g : EvG) : EvS := fun z => (f z).bind fun x => if x.1.plain then (g x.1 x.2).map fun z' => (.nx, z') else none
theorem tss_asg {f : Ev} {g : EvG} (D : Ends) (σ : L2.St) (H : Hp) (q : tss W B (sAsg f g) D σ H) : tAsg (tev W B f) (tgv W B g) D σ H := by
  obtain ⟨ι, z, fl, z', zr, e1, k⟩ := q
  unfold sAsg at e1
  cases ef : f z with
  | none => rw [ef] at e1; cases e1
  | some x =>
    rw [ef, Option.bind_some] at e1
    split at e1
    · rename_i hp
      cases eg : g x.1 x.2 with
      | none => rw [eg] at e1; cases e1
      | some z2 =>
        rw [eg] at e1; cases e1
        exact ⟨ι, z, x.1, x.2, zr, ef, fun v ι1 H1 k1 r1 zr1 => ⟨ι1, x.2, x.1, z', zr1, hp, r1.rep hp, eg, fun σ2 ι2 H2 k2 zr2 => k σ2 ι2 H2 (k1.trans k2) zr2⟩⟩
    · cases e1
theorem ps_asgD {f : Ev} {g : EvG} (he : PE X e (tev W B f)) (hg : PG X tg (tgv W B g)) (hs : swapsWithSole [tg] e pos.line X.env = pure false) (hw : swappedStores [tg] e X.env = pure none) (h1 : (assignEach [tg] X.env).map (·.2) = [assign tg X.env]) : PS X (.Assign [tg] e pos) (tss W B (sAsg f g)) :=
  ps_mono (ps_asg he hg hs hw h1) tss_asg
/-- name = value, whatever the value's form -/
theorem ps_setD {i : Nat} {x : Str} {f : Ev} {pos' : Pos} (hN : X.N.Nodup) (hi : X.N[i]? = some x) (hx : Loc X.env.scope x) (he : PE X e (tev W B f)) (hs : swapsWith e (some (.Name x pos')) pos.line X.env = pure false) (hf : X.fn x = true ∨ X.env.scope.names.lookup x = some .local) : PS X (.Assign [.Name x pos'] e pos) (tss W B (sAsg f (gSet i))) :=
  ps_mono (ps_set hN hi hx he hs hf) fun D σ H q => by
    obtain ⟨ι, z, d, z', zr, e, k⟩ := tss_asg D σ H q
    refine ⟨ι, z, d, z', zr, e, fun v ι' H' k1 r1 zr1 => ?_⟩
    obtain ⟨ι2, z2, d2, z3, zr2, p, r, e2, k2⟩ := k v ι' H' k1 r1 zr1
    cases e2
    exact k2 _ ι2 H' .refl (zr2.set p r)
/-- name = a fresh list, the name's own -/
def sOwn (i : Nat) (f : EvA) : EvS := fun z => (f z).map fun x => (.nx, (x.2.1.set i (some (.own x.1)), x.2.2))
theorem ps_ownD {i : Nat} {x : Str} {f : EvA} {pos' : Pos} (hN : X.N.Nodup) (hi : X.N[i]? = some x) (hx : Loc X.env.scope x) (he : PE X e (tfr W B f)) (hs : swapsWith e (some (.Name x pos')) pos.line X.env = pure false) (hf : X.fn x = true ∨ X.env.scope.names.lookup x = some .local) : PS X (.Assign [.Name x pos'] e pos) (tss W B (sOwn i f)) :=
  ps_mono (ps_set hN hi hx he hs hf) fun D σ H q => by
    obtain ⟨ι, z, fl, z', zr, e1, k⟩ := q
    unfold sOwn at e1
    cases ef : f z with
    | none => rw [ef] at e1; cases e1
    | some x =>
      rw [ef] at e1; cases e1
      exact ⟨ι, z, x.1, x.2, zr, ef, fun p xs ι1 H1 k1 zr1 r l _ hp fr => k _ ι1 H1 k1 (zr1.setOwn fr rfl ⟨l, p, xs, rfl, hp, fr.b, fr.i, r⟩)⟩
def sExpr (f : Ev) : EvS := fun z => (f z).map fun x => (.nx, x.2)
theorem ps_exprD {f : Ev} (he : PE X e (tev W B f)) (hs : swapsWith e none pos.line X.env = pure false) : PS X (.Expr e pos) (tss W B (sExpr f)) :=
  ps_mono (ps_expr he hs) fun D σ H q => by
    obtain ⟨ι, z, fl, z', zr, e1, k⟩ := q
    unfold sExpr at e1
    cases ef : f z with
    | none => rw [ef] at e1; cases e1
    | some x =>
      rw [ef] at e1; cases e1
      exact ⟨ι, z, x.1, x.2, zr, ef, fun v ι1 H1 k1 r1 zr1 => k σ ι1 H1 k1 zr1⟩
def sRet (f : Ev) : EvS := fun z => (f z).bind fun x => if x.1.plain then some (.rt x.1, x.2) else none
theorem ps_retD {f : Ev} (he : PE X e (tev W B f)) : PS X (.Return (some e) pos) (tss W B (sRet f)) :=
  ps_mono (ps_ret he) fun D σ H q => by
    obtain ⟨ι, z, fl, z', zr, e1, k⟩ := q
    unfold sRet at e1
    cases ef : f z with
    | none => rw [ef] at e1; cases e1
    | some x =>
      rw [ef, Option.bind_some] at e1
      split at e1
      · rename_i hp
        cases e1
        exact ⟨ι, z, x.1, x.2, zr, ef, fun v ι1 H1 k1 r1 zr1 => k σ ι1 H1 k1 zr1 v hp (r1.rep hp)⟩
      · cases e1
def sIf (t : EvT) (f g : EvS) : EvS := fun z => (t z).bind fun x => if x.1 then f x.2 else g x.2
theorem ps_ifD {t : EvT} {f g : EvS} {xs ys : List Stmt} (ht : PT X c (ttv W B t)) (hf : PSs X xs (tss W B f)) (hg : PSs X ys (tss W B g)) : PS X (.If c xs ys pos) (tss W B (sIf t f g)) :=
  ps_mono (ps_if ht hf hg) fun D σ H q => by
    obtain ⟨ι, z, fl, z', zr, e1, k⟩ := q
    unfold sIf at e1
    cases ef : t z with
    | none => rw [ef] at e1; cases e1
    | some x =>
      rw [ef, Option.bind_some] at e1
      obtain ⟨b, z1⟩ := x
      refine ⟨ι, z, b, z1, zr, ef, fun ι1 H1 k1 zr1 => ?_⟩
      cases b with
      | true => rw [if_pos rfl]; exact ⟨ι1, z1, fl, z', zr1, e1, fun σ2 ι2 H2 k2 zr2 => k σ2 ι2 H2 (k1.trans k2) zr2⟩
      | false => rw [if_neg Bool.false_ne_true]; exact ⟨ι1, z1, fl, z', zr1, e1, fun σ2 ι2 H2 k2 zr2 => k σ2 ι2 H2 (k1.trans k2) zr2⟩
theorem ps_passD : PS X (.Pass pos) (tss W B sNx) := ps_mono ps_pass fun D σ H q => by
  obtain ⟨ι, z, fl, z', zr, e1, k⟩ := q
  cases e1
  exact k σ ι H .refl zr
theorem ps_breakD : PS X (.Break pos) (tss W B fun z => some (.bk, z)) := ps_mono ps_break fun D σ H q => by
  obtain ⟨ι, z, fl, z', zr, e1, k⟩ := q
  cases e1
  exact k σ ι H .refl zr
theorem ps_contD : PS X (.Continue pos) (tss W B fun z => some (.ct, z)) := ps_mono ps_continue fun D σ H q => by
  obtain ⟨ι, z, fl, z', zr, e1, k⟩ := q
  cases e1
  exact k σ ι H .refl zr
/-- what is never come to -/
theorem ps_neverD {st : Stmt} : PS X st (tss W B fun _ => none) := ⟨fun _ _ _ _ _ _ q => by
  obtain ⟨ι, z, fl, z', zr, e1, k⟩ := q
  cases e1⟩
theorem pss_neverD {st : List Stmt} : PSs X st (tss W B fun _ => none) := ⟨fun _ _ _ _ _ _ q => by
  obtain ⟨ι, z, fl, z', zr, e1, k⟩ := q
  cases e1⟩
/-- a, b = x, y with plain local names -/
def sPar (i j : Nat) (f : EvA) : EvS := fun z => (f z).bind fun x => match x.1 with
  | [d1, d2] => if d1.plain && d2.plain then some (.nx, ((x.2.1.set i (some (.imm d1))).set j (some (.imm d2)), x.2.2)) else none
  | _ => none
theorem ps_parD {i j : Nat} {x y : Str} {f : EvA} {px py pt : Pos} {kt k2 pt2} (hc : X.calm = true) (hN : X.N.Nodup) (hi : X.N[i]? = some x) (hj : X.N[j]? = some y) (hij : i ≠ j)
    (hx : X.env.scope.names.lookup x = some .local) (hy : X.env.scope.names.lookup y = some .local) (ha : PA X [a, b] (tevA W B f))
    (hw : swappedStores [.Tuple [.Name x px, .Name y py] kt pt] (.Tuple [a, b] k2 pt2) X.env = pure (some [x, y]))
    (hs : swapsWithSole [.Tuple [.Name x px, .Name y py] kt pt] (.Tuple [a, b] k2 pt2) pos.line X.env = pure false) :
    PS X (.Assign [.Tuple [.Name x px, .Name y py] kt pt] (.Tuple [a, b] k2 pt2) pos) (tss W B (sPar i j f)) :=
  ps_mono (ps_par hc hN hi hj hij hx hy ha hw hs) fun D σ H q => by
    obtain ⟨ι, z, fl, z', zr, e1, k⟩ := q
    unfold sPar at e1
    cases ef : f z with
    | none => rw [ef] at e1; cases e1
    | some x =>
      rw [ef, Option.bind_some] at e1
      obtain ⟨ds, z1⟩ := x
      simp only at e1
      split at e1
      · rename_i d1 d2
        split at e1
        · rename_i hp
          rw [Bool.and_eq_true] at hp
          cases e1
          refine ⟨ι, z, _, z1, zr, ef, fun vs ι1 H1 k1 r1 zr1 => ?_⟩
          cases r1 with
          | cons ra rt =>
            cases rt with
            | cons rb rt2 =>
              cases rt2
              exact ⟨_, _, rfl, k _ ι1 H1 k1 ((zr1.set hp.1 (ra.rep hp.1)).set hp.2 (rb.rep hp.2))⟩
        · cases e1
      · cases e1
/-! ### loops -/
/-- the loop over these items: g stores the item, b is the body -/
def forL (g : EvG) (b : EvS) : List D → EvS
  | [], z => some (.nx, z)
  | d :: ds, z => (g d z).bind fun z1 => (b z1).bind fun x => match x.1 with
    | .nx => forL g b ds x.2
    | .ct => forL g b ds x.2
    | .bk => some (.nx, x.2)
    | .rt v => some (.rt v, x.2)
/-- what is walked: a walk's items as data. J yields at turn i something that represents the i-th -/
structure Wlk (W : Wd) (ι : List Addr) (H0 : Hp) (J : It) (ds : List D) (G : Hp → Prop) : Prop where
  goes : ∀ i H, i < ds.length → G H → J.go i H
  stops : ∀ H, G H → J.stop ds.length H
  yields : ∀ i H x H', i < ds.length → G H → J.yld i H x H' → (∀ b o, H b = some o → H' b = some o) ∧ ∀ d ι1, ds[i]? = some d → Kp ι H0 ι1 H → d.plain = true ∧ Rep W ι1 H' d x
/-- an iterable as data: its items, and what keeps them -/
def tiv (W : Wd) (B : Bs) (f : EvA) : TI := fun σ H R => ∃ ι z ds z', ZR W B ι H σ z ∧ f z = some (ds, z') ∧ ∀ J G ι1 H1, Kp ι H ι1 H1 → ZR W B ι1 H1 σ z' → Wlk W ι1 H1 J ds G → G H1 → (∀ ι2 H2, Kp ι1 H1 ι2 H2 → G H2) → R J H1
theorem pi_mono {iter : Expr} {t u : TI} (h : PI X tg iter t) (m : ∀ σ H R, u σ H R → t σ H R) : PI X tg iter u := ⟨fun pins s σ H R I q => h.run pins s σ H R I (m σ H R q)⟩
def sFor (f : EvA) (g : EvG) (b : EvS) : EvS := fun z => (f z).bind fun x => forL g b x.1 x.2
theorem ps_forD {iter : Expr} {body : List Stmt} {f : EvA} {g : EvG} {b : EvS} (hp : PassesOwn (model X.prog X.w) X.A X.env X.xe) (hc : X.calm = true) (hi : PI X tg iter (tiv W B f)) (hg : PG X tg (tgv W B g)) (hb : PSs X body (tss W B b)) (hs : ∀ x, foldedSetIterable iter X.env x = pure x) :
    PS X (.For tg iter body [] pos) (tss W B (sFor f g b)) := by
  refine ps_mono (ps_for hp hc hi hg hb hs) fun D σ H q => ?_
  obtain ⟨ι, z, fl, z', zr, e1, k⟩ := q
  unfold sFor at e1
  cases ef : f z with
  | none => rw [ef] at e1; cases e1
  | some x =>
    rw [ef, Option.bind_some] at e1
    obtain ⟨ds, z1⟩ := x
    refine ⟨ι, z, ds, z1, zr, ef, fun J G ι1 H1 k1 zr1 wl g1 gk => ?_⟩
    refine ⟨fun i m σ2 H2 => m = ds.length - i ∧ i ≤ ds.length ∧ ∃ ι2 z2, Kp ι1 H1 ι2 H2 ∧ ZR W B ι2 H2 σ2 z2 ∧ forL g b (ds.drop i) z2 = some (fl, z'), ⟨ds.length, by simp, Nat.zero_le _, ι1, z1, .refl, zr1, by simpa using e1⟩, ?_⟩
    rintro i m σ2 H2 ⟨rfl, hi, ι2, z2, k2, zr2, e2⟩
    have g2 := gk ι2 H2 k2
    by_cases hlt : i < ds.length
    · have hd : ds.drop i = ds[i] :: ds.drop (i + 1) := List.drop_eq_getElem_cons hlt
      rw [hd] at e2
      unfold forL at e2
      cases eg : g ds[i] z2 with
      | none => rw [eg] at e2; cases e2
      | some z3 =>
        rw [eg, Option.bind_some] at e2
        cases eb : b z3 with
        | none => rw [eb] at e2; cases e2
        | some y =>
          rw [eb, Option.bind_some] at e2
          obtain ⟨fl4, z4⟩ := y
          refine .inr ⟨wl.goes i H2 hlt g2, fun σ5 H5 => ∃ ι5 z5, Kp ι1 H1 ι5 H5 ∧ ZR W B ι5 H5 σ5 z5 ∧ forL g b (ds.drop (i + 1)) z5 = some (fl, z'), ?_, ?_⟩
          · rintro σ5 H5 ⟨ι5, z5, k5, zr5, e5⟩
            exact ⟨ds.length - (i + 1), by omega, rfl, hlt, ι5, z5, k5, zr5, e5⟩
          · intro x H3 hy
            obtain ⟨sm, yl⟩ := wl.yields i H2 x H3 hlt g2 hy
            obtain ⟨pl, rp⟩ := yl ds[i] ι2 (List.getElem?_eq_getElem hlt) k2
            have k3 : Kp ι1 H1 ι2 H3 := k2.trans (Kp.same sm)
            refine ⟨ι2, z2, ds[i], z3, zr2.same sm, pl, rp, eg, fun σ6 ι6 H6 k6 zr6 => ⟨ι6, z3, fl4, z4, zr6, eb, fun σ7 ι7 H7 k7 zr7 => ?_⟩⟩
            have k8 : Kp ι1 H1 ι7 H7 := (k3.trans k6).trans k7
            cases fl4 with
            | nx => exact ⟨ι7, z4, k8, zr7, e2⟩
            | ct => exact ⟨ι7, z4, k8, zr7, e2⟩
            | bk =>
              cases e2
              exact k σ7 ι7 H7 (k1.trans k8) zr7
            | rt v =>
              cases e2
              exact k σ7 ι7 H7 (k1.trans k8) zr7
    · have e : i = ds.length := by omega
      subst e
      rw [List.drop_length] at e2
      cases e2
      exact .inl ⟨wl.stops H2 g2, k σ2 ι2 H2 (k1.trans k2) zr2⟩
/-- while, with fuel -/
def whileL (t : EvT) (b : EvS) : Nat → EvS
  | 0, _ => none
  | n + 1, z => (t z).bind fun x => if x.1 then (b x.2).bind fun y => (match y.1 with
    | .nx => whileL t b n y.2
    | .ct => whileL t b n y.2
    | .bk => some (.nx, y.2)
    | .rt v => some (.rt v, y.2)) else some (.nx, x.2)
theorem ps_whileD {body : List Stmt} {t : EvT} {b : EvS} {n : Nat} (hp : PassesOwn (model X.prog X.w) X.A X.env X.xe) (ht : PT X c (ttv W B t)) (hb : PSs X body (tss W B b)) : PS X (.While c body [] pos) (tss W B (whileL t b n)) := by
  refine ps_mono (ps_while hp ht hb) fun D σ H q => ?_
  obtain ⟨ι, z, fl, z', zr, e1, k⟩ := q
  refine ⟨fun m σ2 H2 => ∃ ι2 z2, Kp ι H ι2 H2 ∧ ZR W B ι2 H2 σ2 z2 ∧ whileL t b m z2 = some (fl, z'), ⟨n, ι, z, .refl, zr, e1⟩, ?_⟩
  rintro m σ2 H2 ⟨ι2, z2, k2, zr2, e2⟩
  cases m with
  | zero => cases e2
  | succ m =>
    unfold whileL at e2
    cases et : t z2 with
    | none => rw [et] at e2; cases e2
    | some x =>
      rw [et, Option.bind_some] at e2
      obtain ⟨bb, z3⟩ := x
      refine ⟨ι2, z2, bb, z3, zr2, et, fun ι3 H3 k3 zr3 => ?_⟩
      cases bb with
      | false =>
        rw [if_neg Bool.false_ne_true]
        cases e2
        exact k σ2 ι3 H3 (k2.trans k3) zr3
      | true =>
        rw [if_pos rfl]
        simp only [if_true] at e2
        cases eb : b z3 with
        | none => rw [eb] at e2; cases e2
        | some y =>
          rw [eb, Option.bind_some] at e2
          obtain ⟨fl4, z4⟩ := y
          refine ⟨fun σ5 H5 => ∃ ι5 z5, Kp ι H ι5 H5 ∧ ZR W B ι5 H5 σ5 z5 ∧ whileL t b m z5 = some (fl, z'), ?_, ι3, z3, fl4, z4, zr3, eb, fun σ7 ι7 H7 k7 zr7 => ?_⟩
          · rintro σ5 H5 ⟨ι5, z5, k5, zr5, e5⟩
            exact ⟨m, Nat.lt_succ_self _, ι5, z5, k5, zr5, e5⟩
          · have k8 : Kp ι H ι7 H7 := (k2.trans k3).trans k7
            cases fl4 with
            | nx => exact ⟨ι7, z4, k8, zr7, e2⟩
            | ct => exact ⟨ι7, z4, k8, zr7, e2⟩
            | bk =>
              cases e2
              exact k σ7 ι7 H7 k8 zr7
            | rt v =>
              cases e2
              exact k σ7 ι7 H7 k8 zr7
end
end DE
set_option Elab.async false
set_option linter.all false
set_option maxRecDepth 100000
set_option maxHeartbeats 4000000
/-! DE5: what is walked; list comprehensions; a def by its body. -/
namespace DE
open PySem PySem.Spec L2
section
variable {X : Cx} {W : Wd} {B : Bs} {a b c e tg : Expr} {fa fb fc : Ev} {pos p : Pos}
theorem pi_or {iter : Expr} {t u : TI} (h : PI X tg iter t) (h' : PI X tg iter u) : PI X tg iter (fun σ H R => t σ H R ∨ u σ H R) := ⟨fun pins s σ H R I q => q.elim (h.run pins s σ H R I) (h'.run pins s σ H R I)⟩
/-! ### lists, tuples, texts -/
def itD : D → Option (List D)
  | .lst ds => some ds
  | .tup ds => some ds
  | .str s => some (s.map fun c => .str [c])
  | _ => none
def fIt (f : Ev) : EvA := fun z => (f z).bind fun x => (itD x.1).map fun ds => (ds, x.2)
theorem wlk_list {ι : List Addr} {H0 : Hp} {K : PySem.W.Frag} (hK : K = W.K) {a : Addr} {ds : List D} {xs : List V} (r : RepL W ι H0 ds xs) : Wlk W ι H0 (Itl K a) ds (fun H => Fz W.K H a xs) where
  goes := fun i H hi g => by
    rw [r.length] at hi
    exact ⟨xs, xs[i], hK ▸ g.sq, by simp [hi]⟩
  stops := fun H g => ⟨xs, hK ▸ g.sq, by rw [r.length]; exact Nat.le_refl _⟩
  yields := fun i H x H' hi g y => by
    obtain ⟨rfl, y⟩ := y
    refine ⟨fun _ _ h => h, fun d ι1 hd k => ?_⟩
    obtain ⟨v, hv, rv, pv⟩ := (r.kp k).get hd
    have := y xs (hK ▸ g.sq)
    rw [hv] at this; cases this
    exact ⟨pv, rv⟩
theorem wlk_tup {ι : List Addr} {H0 : Hp} {K : PySem.W.Frag} {a : Addr} {ds : List D} {xs : List V} (r : RepL W ι H0 ds xs) : Wlk W ι H0 (Itt K a) ds (fun H => SqT K H a xs) where
  goes := fun i H hi g => by
    rw [r.length] at hi
    exact ⟨xs, xs[i], g, by simp [hi]⟩
  stops := fun H g => ⟨xs, g, by rw [r.length]; exact Nat.le_refl _⟩
  yields := fun i H x H' hi g y => by
    obtain ⟨rfl, y⟩ := y
    refine ⟨fun _ _ h => h, fun d ι1 hd k => ?_⟩
    obtain ⟨v, hv, rv, pv⟩ := (r.kp k).get hd
    have := y xs g
    rw [hv] at this; cases this
    exact ⟨pv, rv⟩
theorem wlk_str {ι : List Addr} {H0 : Hp} {s : List Nat} : Wlk W ι H0 (Its (SX.S s)) (s.map fun c => D.str [c]) (fun _ => True) where
  goes := fun i H hi _ => by
    show i < (SX.S s).cps.size
    simpa using hi
  stops := fun H _ => by
    show (SX.S s).cps.size ≤ _
    simp
  yields := fun i H x H' hi _ y => by
    obtain ⟨rfl, c, hc, rfl⟩ := y
    refine ⟨fun _ _ h => h, fun d ι1 hd k => ?_⟩
    have hc' : s[i]? = some c := by simpa using hc
    rw [List.getElem?_map, hc'] at hd
    cases hd
    refine ⟨rfl, ?_⟩
    unfold Rep
    exact ⟨rfl, by rw [sizeLine_eq]; simp⟩
theorem fz_kp {ι ι' : List Addr} {H H' : Hp} {a : Addr} {xs : List V} (k : Kp ι H ι' H') {K : PySem.W.Frag} (h : Fz K H a xs) : Fz K H' a xs := by
  exact h.elim (fun ⟨o, h⟩ => .inl ⟨o, k.fz a _ h rfl⟩) .inr
theorem pi_itD (hK : X.K = W.K) (h : PE X e (tev W B fa)) : PI X tg e (tiv W B (fIt fa)) := by
  refine pi_mono (pi_or (pi_list h) (pi_or (pi_tup h) (pi_str h))) fun σ H R q => ?_
  obtain ⟨ι, z, ds, z', zr, e1, k⟩ := q
  unfold fIt at e1
  cases ea : fa z with
  | none => rw [ea] at e1; cases e1
  | some x =>
    rw [ea, Option.bind_some] at e1
    obtain ⟨d, z1⟩ := x
    cases d with
    | lst l =>
      cases e1
      refine .inl ⟨ι, z, _, _, zr, ea, fun v ι1 H1 k1 r1 zr1 => ?_⟩
      have r2 := r1.rep rfl
      unfold Rep at r2
      obtain ⟨_, p, xs, ev, fz, rl⟩ := r2
      exact ⟨p, ev, ⟨xs, hK ▸ fz.sq⟩, k _ _ ι1 H1 k1 zr1 (wlk_list hK rl) fz fun ι2 H2 k2 => fz_kp k2 fz⟩
    | tup l =>
      cases e1
      refine .inr (.inl ⟨ι, z, _, _, zr, ea, fun v ι1 H1 k1 r1 zr1 => ?_⟩)
      have r2 := r1.rep rfl
      unfold Rep at r2
      obtain ⟨_, p, xs, ev, fz, rl⟩ := r2
      rw [hK]
      exact ⟨p, ev, ⟨xs, fz⟩, k _ _ ι1 H1 k1 zr1 (wlk_tup rl) fz fun ι2 H2 k2 => fz_sqT k2.fz fz⟩
    | str s =>
      cases e1
      refine .inr (.inr ⟨ι, z, _, _, zr, ea, fun v ι1 H1 k1 r1 zr1 => ?_⟩)
      have r2 := r1.rep rfl
      unfold Rep at r2
      exact ⟨_, r2.1, k _ _ ι1 H1 k1 zr1 wlk_str trivial fun _ _ _ => trivial⟩
    | _ => cases e1
/-! ### range -/
def rngL (lo : Int) (n : Nat) : List D := (List.range n).map fun i => .int (lo + (i : Nat))
theorem wlk_rng {ι : List Addr} {H0 : Hp} {lo : Int} {n : Nat} : Wlk W ι H0 (Itr lo n) (rngL lo n) (fun _ => True) where
  goes := fun i H hi _ => by
    show i < n
    simpa [rngL] using hi
  stops := fun H _ => by
    show n ≤ _
    simp [rngL]
  yields := fun i H x H' hi _ y => by
    obtain ⟨rfl, rfl⟩ := y
    refine ⟨fun _ _ h => h, fun d ι1 hd k => ?_⟩
    have hn : i < n := by simpa [rngL] using hi
    unfold rngL at hd
    rw [List.getElem?_map, List.getElem?_range hn] at hd
    cases hd
    exact ⟨rfl, by unfold Rep; rfl⟩
def bigOk (i : Int) : Bool := Nat.ble i.natAbs 1000000000
theorem big_le {i : Int} (h : bigOk i = true) : -1000000000 ≤ i ∧ i ≤ 1000000000 := by
  have := Nat.le_of_ble_eq_true h
  omega
def fRng1 (f : EvA) : EvA := fun z => (f z).bind fun x => match x.1 with
  | [.int j] => if bigOk j then some (rngL 0 j.toNat, x.2) else none
  | _ => none
def fRng2 (f : EvA) : EvA := fun z => (f z).bind fun x => match x.1 with
  | [.int i, .int j] => if bigOk i && bigOk j then some (rngL i (j - i).toNat, x.2) else none
  | _ => none
theorem x_int {ι : List Addr} {H : Hp} {σ : L2.St} {i : Int} {v : V} (h : XRep W ι H σ (.int i) v) : v = .int i := by
  have := h.rep rfl
  unfold Rep at this
  exact this
theorem pi_rng1D {f : EvA} (hg : Gl X "range") (hm : X.mg "range" = none) (ha : PA X [a] (tevA W B f)) (hs : starEach [a] X.env = [(false, eval a X.env)]) : PI X tg (.Call (.Name "range" p) [a] [] pos) (tiv W B (fRng1 f)) := by
  refine pi_mono (pi_range1 hg hm ha hs) fun σ H R q => ?_
  obtain ⟨ι, z, ds, z', zr, e1, k⟩ := q
  unfold fRng1 at e1
  cases ea : f z with
  | none => rw [ea] at e1; cases e1
  | some x =>
    rw [ea, Option.bind_some] at e1
    split at e1
    · rename_i j hx
      split at e1
      · rename_i hb
        have hb := big_le hb
        cases e1
        refine ⟨ι, z, x.1, x.2, zr, ea, fun vs ι1 H1 k1 r1 zr1 => ?_⟩
        rw [hx] at r1
        cases r1 with
        | cons ra rt =>
          cases rt
          refine ⟨j, by rw [x_int ra], by omega, by omega, ?_⟩
          exact k _ _ ι1 H1 k1 zr1 wlk_rng trivial fun _ _ _ => trivial
      · cases e1
    · cases e1
theorem pi_rng2D {f : EvA} (hg : Gl X "range") (hm : X.mg "range" = none) (ha : PA X [a, b] (tevA W B f)) (hs : starEach [a, b] X.env = [(false, eval a X.env), (false, eval b X.env)]) (hs2 : starEach [b] X.env = [(false, eval b X.env)]) : PI X tg (.Call (.Name "range" p) [a, b] [] pos) (tiv W B (fRng2 f)) := by
  refine pi_mono (pi_range2 hg hm ha hs hs2) fun σ H R q => ?_
  obtain ⟨ι, z, ds, z', zr, e1, k⟩ := q
  unfold fRng2 at e1
  cases ea : f z with
  | none => rw [ea] at e1; cases e1
  | some x =>
    rw [ea, Option.bind_some] at e1
    split at e1
    · rename_i i j hx
      split at e1
      · rename_i hb
        rw [Bool.and_eq_true] at hb
        have hb1 := big_le hb.1
        have hb2 := big_le hb.2
        cases e1
        refine ⟨ι, z, x.1, x.2, zr, ea, fun vs ι1 H1 k1 r1 zr1 => ?_⟩
        rw [hx] at r1
        cases r1 with
        | cons ra rt =>
          cases rt with
          | cons rb rt2 =>
            cases rt2
            refine ⟨i, j, by rw [x_int ra, x_int rb], by omega, ?_⟩
            exact k _ _ ι1 H1 k1 zr1 wlk_rng trivial fun _ _ _ => trivial
      · cases e1
    · cases e1
/-! ### zip of two lists, of two tuples -/
def zipT : List D → List D → List D
  | d :: ds, e :: es => .tup [d, e] :: zipT ds es
  | _, _ => []
theorem zipT_len : ∀ (ds es : List D), (zipT ds es).length = min ds.length es.length
  | [], _ => by simp [zipT]
  | _ :: _, [] => by simp [zipT]
  | d :: ds, e :: es => by simp only [zipT, List.length_cons, zipT_len ds es]; omega
theorem zipT_get : ∀ (ds es : List D) (i : Nat) (d : D), (zipT ds es)[i]? = some d → ∃ x y, ds[i]? = some x ∧ es[i]? = some y ∧ d = .tup [x, y]
  | [], _, _, _, h => by simp [zipT] at h
  | _ :: _, [], _, _, h => by simp [zipT] at h
  | d :: ds, e :: es, 0, _, h => by simp [zipT] at h; exact ⟨d, e, rfl, rfl, h.symm⟩
  | d :: ds, e :: es, i + 1, d', h => by
    simp only [zipT, List.getElem?_cons_succ] at h ⊢
    exact zipT_get ds es i d' h
theorem wlk_pair {ι : List Addr} {H0 : Hp} {J : It} {n : Nat} {G : Hp → Prop} {xs ys : List V} {ds es : List D} (r1 : RepL W ι H0 ds xs) (r2 : RepL W ι H0 es ys) (w : Walk J n G (YPair (fun i => xs[i]?) (fun i => ys[i]?))) (hn : n = min ds.length es.length) : Wlk W ι H0 J (zipT ds es) G where
  goes := fun i H hi g => w.goes i H (by rw [hn, ← zipT_len]; exact hi) g
  stops := fun H g => by rw [zipT_len, ← hn]; exact w.stops H g
  yields := fun i H x H' hi g y => by
    obtain ⟨T, u, v, rfl, hT, rfl, hu, hv⟩ := w.yields i H x H' (by rw [hn, ← zipT_len]; exact hi) g y
    refine ⟨fun b o e => by rw [upd_ne (ne_of_none e hT)]; exact e, fun d ι1 hd k => ?_⟩
    obtain ⟨d1, d2, g1, g2, rfl⟩ := zipT_get ds es i d hd
    obtain ⟨u', hu', ru, pu⟩ := (r1.kp k).get g1
    obtain ⟨v', hv', rv, pv⟩ := (r2.kp k).get g2
    have e1 : xs[i]? = some u := hu
    have e2 : ys[i]? = some v := hv
    rw [hu'] at e1; cases e1
    rw [hv'] at e2; cases e2
    refine ⟨rfl, ?_⟩
    unfold Rep
    exact ⟨by rw [sizeLine_eq]; simp, T, _, rfl, SqT.of upd_same, .cons pu (ru.kp (Kp.alloc hT) pu) (.cons pv (rv.kp (Kp.alloc hT) pv) .nil)⟩
theorem walk_zipT {K : PySem.W.Frag} {a b : Addr} {xs ys : List V} {n : Nat} (hn : n = min xs.length ys.length) : Walk (RZ.ItzT K a b) n (fun H => SqT K H a xs ∧ SqT K H b ys) (YPair (fun i => xs[i]?) (fun i => ys[i]?)) := by
  subst hn
  refine ⟨fun i _ hi q => ?_, fun _ q => ⟨xs, ys, q.1, q.2, by omega⟩, fun i H v H' _ q y => ?_⟩
  · have h1 : i < xs.length := by omega
    have h2 : i < ys.length := by omega
    exact ⟨xs, ys, xs[i], ys[i], q.1, q.2, by simp [h1], by simp [h2]⟩
  · obtain ⟨T, x, z, h1, h2, h3, h4, h5⟩ := y
    exact ⟨T, x, z, h1, h2, h3, h4 xs q.1, h5 ys q.2⟩
def fZip (f : EvA) : EvA := fun z => (f z).bind fun x => match x.1 with
  | [.lst ds, .lst es] => some (zipT ds es, x.2)
  | [.tup ds, .tup es] => some (zipT ds es, x.2)
  | _ => none
theorem pi_zipD {f : EvA} {elts : List Expr} {kk : Nat} {tpos : Pos} (hK : X.K = W.K) (hg : Gl X "zip") (hm : X.mg "zip" = none) (ha : PA X [a, b] (tevA W B f)) (hs : starEach [a, b] X.env = (false, eval a X.env) :: starEach [b] X.env) (hpl : (backTo pos (starEach [b] X.env)).any (·.1) = false) :
    PI X (.Tuple elts kk tpos) (.Call (.Name "zip" p) [a, b] [] pos) (tiv W B (fZip f)) := by
  refine pi_mono (RZ.pi_zipA hg hm ha hs hpl) fun σ H R q => ?_
  obtain ⟨ι, z, ds, z', zr, e1, k⟩ := q
  unfold fZip at e1
  cases ea : f z with
  | none => rw [ea] at e1; cases e1
  | some x =>
    rw [ea, Option.bind_some] at e1
    split at e1
    · rename_i l1 l2 hx
      cases e1
      refine ⟨ι, z, x.1, x.2, zr, ea, fun vs ι1 H1 k1 r1 zr1 => ?_⟩
      rw [hx] at r1
      cases r1 with
      | cons ra rt =>
        cases rt with
        | cons rb rt2 =>
          cases rt2
          have ra := ra.rep rfl
          have rb := rb.rep rfl
          unfold Rep at ra rb
          obtain ⟨_, p1, xs, rfl, f1, rl1⟩ := ra
          obtain ⟨_, p2, ys, rfl, f2, rl2⟩ := rb
          exact ⟨p1, p2, xs, ys, rfl, .inl ⟨hK ▸ f1.sq, hK ▸ f2.sq, k _ (fun H => Fz W.K H p1 xs ∧ Fz W.K H p2 ys) ι1 H1 k1 zr1 (wlk_pair rl1 rl2 ((walk_zip rfl).mono (fun _ h => ⟨hK ▸ h.1.sq, hK ▸ h.2.sq⟩) fun _ _ _ _ _ _ y => y) (by rw [rl1.length, rl2.length])) ⟨f1, f2⟩ fun ι2 H2 k2 => ⟨fz_kp k2 f1, fz_kp k2 f2⟩⟩⟩
    · rename_i l1 l2 hx
      cases e1
      refine ⟨ι, z, x.1, x.2, zr, ea, fun vs ι1 H1 k1 r1 zr1 => ?_⟩
      rw [hx] at r1
      cases r1 with
      | cons ra rt =>
        cases rt with
        | cons rb rt2 =>
          cases rt2
          have ra := ra.rep rfl
          have rb := rb.rep rfl
          unfold Rep at ra rb
          obtain ⟨_, p1, xs, rfl, f1, rl1⟩ := ra
          obtain ⟨_, p2, ys, rfl, f2, rl2⟩ := rb
          rw [hK]
          exact ⟨p1, p2, xs, ys, rfl, .inr ⟨f1, f2, k _ (fun H => SqT W.K H p1 xs ∧ SqT W.K H p2 ys) ι1 H1 k1 zr1 (wlk_pair rl1 rl2 (walk_zipT rfl) (by rw [rl1.length, rl2.length])) ⟨f1, f2⟩ fun ι2 H2 k2 => ⟨fz_sqT k2.fz f1, fz_sqT k2.fz f2⟩⟩⟩
    · cases e1
/-! ### comprehensions -/
theorem wipe_get (σ : L2.St) (j : Nat) : ∀ vs : List Nat, (wipe σ vs)[j]? = if j ∈ vs then (if j < σ.length then some none else none) else σ[j]?
  | [] => by simp [wipe]
  | v :: vs => by
    unfold wipe
    by_cases hj : v = j
    · subst hj
      rw [if_pos List.mem_cons_self]
      by_cases hl : v < σ.length
      · rw [if_pos hl, List.getElem?_set_self (by rw [wipe_length]; exact hl)]
      · rw [if_neg hl, List.getElem?_eq_none (by simp [wipe_length]; omega)]
    · rw [List.getElem?_set_ne hj, wipe_get σ j vs]
      have : (j ∈ v :: vs) ↔ j ∈ vs := by
        simp only [List.mem_cons]
        exact ⟨fun h => h.elim (fun e => absurd e.symm hj) id, .inr⟩
      simp only [this]
theorem wipe_set {σ : L2.St} {i : Nat} {x : Option V} {vs : List Nat} (h : i ∈ vs) : wipe (σ.set i x) vs = wipe σ vs := by
  apply List.ext_getElem?
  intro j
  rw [wipe_get, wipe_get, List.length_set]
  by_cases hj : j ∈ vs
  · rw [if_pos hj, if_pos hj]
  · rw [if_neg hj, if_neg hj, List.getElem?_set_ne (by rintro rfl; exact hj h)]
theorem wipe_wipe (σ : L2.St) (vs : List Nat) : wipe (wipe σ vs) vs = wipe σ vs := by
  apply List.ext_getElem?
  intro j
  rw [wipe_get, wipe_get, wipe_length]
  by_cases hj : j ∈ vs
  · rw [if_pos hj, if_pos hj]
  · rw [if_neg hj, if_neg hj]
def wipeR (ρ : Rho) : List Nat → Rho
  | [] => ρ
  | v :: vs => (wipeR ρ vs).set v none
theorem wipeR_len (ρ : Rho) : ∀ vs, (wipeR ρ vs).length = ρ.length
  | [] => rfl
  | v :: vs => by unfold wipeR; rw [List.length_set, wipeR_len ρ vs]
theorem wipeR_get {ρ : Rho} {j : Nat} {dv : DV} : ∀ {vs : List Nat}, (wipeR ρ vs)[j]? = some (some dv) → ρ[j]? = some (some dv) ∧ j ∉ vs
  | [], h => ⟨h, by simp⟩
  | v :: vs, h => by
    unfold wipeR at h
    by_cases hj : v = j
    · subst hj
      by_cases hl : v < (wipeR ρ vs).length
      · rw [List.getElem?_set_self hl] at h; cases h
      · rw [List.getElem?_eq_none (by simpa using hl)] at h; cases h
    · rw [List.getElem?_set_ne hj] at h
      obtain ⟨h1, h2⟩ := wipeR_get h
      exact ⟨h1, by simp only [List.mem_cons, not_or]; exact ⟨fun e => hj e.symm, h2⟩⟩
theorem ZR.wiped {ι : List Addr} {H : Hp} {σ σ' : L2.St} {z : Z} {vs : List Nat} (zr : ZR W B ι H σ z) (h : L2.wipe σ vs = L2.wipe σ' vs) (hl : σ.length = σ'.length) : ZR W B ι H (L2.wipe σ' vs) (wipeR z.1 vs, z.2) := by
  have gt : ∀ {j : Nat}, j ∉ vs → (L2.wipe σ' vs)[j]? = σ[j]? := fun {j} hj => by
    rw [← h, wipe_get, if_neg hj]
  refine ⟨zr.st, zr.pre, zr.new, zr.keep, zr.newP, zr.keepP, by show (wipeR z.1 vs).length = _; rw [wipeR_len, wipe_length, zr.len, hl], fun j dv hj => ?_, fun j1 j2 dv dv' a' h1 o1 h2 o2 s1 s2 => ?_⟩
  · obtain ⟨g, n⟩ := wipeR_get hj
    obtain ⟨v, hv, r⟩ := zr.slot j dv g
    exact ⟨v, by rw [gt n]; exact hv, r⟩
  · obtain ⟨g1, n1⟩ := wipeR_get h1
    obtain ⟨g2, n2⟩ := wipeR_get h2
    rw [gt n1] at s1
    rw [gt n2] at s2
    exact zr.dis j1 j2 dv dv' a' g1 o1 g2 o2 s1 s2
/-- the slots of a comprehension as they were ahead of it (those with lasting data) -/
def backR (r s : Rho) : List Nat → Rho
  | [] => s
  | v :: vs => (backR r s vs).set v (match r[v]? with
    | some (some (.imm d)) => some (.imm d)
    | _ => none)
theorem backR_len (r s : Rho) : ∀ vs, (backR r s vs).length = s.length
  | [] => rfl
  | v :: vs => by unfold backR; rw [List.length_set, backR_len r s vs]
theorem backR_get {r s : Rho} {j : Nat} {dv : DV} : ∀ {vs : List Nat}, (backR r s vs)[j]? = some (some dv) → (j ∉ vs ∧ s[j]? = some (some dv)) ∨ (j ∈ vs ∧ ∃ d, dv = .imm d ∧ r[j]? = some (some (.imm d)))
  | [], h => .inl ⟨by simp, h⟩
  | v :: vs, h => by
    unfold backR at h
    by_cases hj : v = j
    · subst hj
      by_cases hl : v < (backR r s vs).length
      · rw [List.getElem?_set_self hl] at h
        refine .inr ⟨List.mem_cons_self, ?_⟩
        split at h
        · rename_i d q
          cases h
          exact ⟨d, rfl, q⟩
        · cases h
      · rw [List.getElem?_eq_none (by simpa using hl)] at h; cases h
    · rw [List.getElem?_set_ne hj] at h
      rcases backR_get h with ⟨h1, h2⟩ | ⟨h1, h2⟩
      · exact .inl ⟨by simp only [List.mem_cons, not_or]; exact ⟨fun e => hj e.symm, h1⟩, h2⟩
      · exact .inr ⟨List.mem_cons_of_mem _ h1, h2⟩
theorem ZR.back {ι ι' : List Addr} {H H' : Hp} {σ : L2.St} {z z' : Z} {vs : List Nat} (zr : ZR W B ι H σ z) (k : Kp ι H ι' H') (zr' : ZR W B ι' H' (L2.wipe σ vs) z') : ZR W B ι' H' σ (backR z.1 z'.1 vs, z'.2) := by
  have gt : ∀ {j : Nat}, j ∉ vs → (L2.wipe σ vs)[j]? = σ[j]? := fun {j} hj => by rw [wipe_get, if_neg hj]
  refine ⟨zr'.st, zr'.pre, zr'.new, zr'.keep, zr'.newP, zr'.keepP, by show (backR z.1 z'.1 vs).length = _; rw [backR_len, zr'.len, wipe_length], fun j dv hj => ?_, fun j1 j2 dv dv' a' h1 o1 h2 o2 s1 s2 => ?_⟩
  · rcases backR_get hj with ⟨n, g⟩ | ⟨m, d, rfl, g⟩
    · obtain ⟨v, hv, r⟩ := zr'.slot j dv g
      exact ⟨v, by rw [← gt n]; exact hv, r⟩
    · obtain ⟨v, hv, p, r⟩ := zr.slot j _ g
      exact ⟨v, hv, p, r.kp k p⟩
  · rcases backR_get h1 with ⟨n1, g1⟩ | ⟨_, d, rfl, _⟩
    · rcases backR_get h2 with ⟨n2, g2⟩ | ⟨_, d, rfl, _⟩
      · rw [← gt n1] at s1
        rw [← gt n2] at s2
        exact zr'.dis j1 j2 dv dv' a' g1 o1 g2 o2 s1 s2
      · cases o2
    · cases o1
/-- a list in the making is kept: another base -/
theorem ZR.guard {ι : List Addr} {H : Hp} {σ : L2.St} {z : Z} {p : Addr} {o : HO} (zr : ZR W B ι H σ z) (fr : Fr B ι σ z p) (hp : H p = some o) : ZR W ⟨B.ι, B.H, upd B.P p o⟩ ι H σ z := by
  refine ⟨zr.st, zr.pre, zr.new, zr.keep, fun a ha => ?_, fun b u x => ?_, zr.len, fun i dv x => ?_, zr.dis⟩
  · show upd B.P p o a = none
    rw [upd_ne (fun q : a = p => fr.i (q ▸ ha))]
    exact zr.newP a ha
  · by_cases hb : b = p
    · subst hb
      have x : upd B.P b o b = some u := x
      rw [upd_same] at x; cases x
      exact hp
    · have x : upd B.P p o b = some u := x
      rw [upd_ne hb] at x
      exact zr.keepP b u x
  · obtain ⟨v, hv, r⟩ := zr.slot i dv x
    refine ⟨v, hv, ?_⟩
    have off : ∀ a, dv.isOwn = true → v = .ref a → upd B.P p o a = B.P a := fun a ho e => upd_ne fun q => fr.o i dv x ho (by rw [hv, e, q])
    cases dv with
    | imm d => exact r
    | own ds =>
      obtain ⟨l, a, xs, e, y, b, n, rl⟩ := r
      exact ⟨l, a, xs, e, y, ⟨b.1, (off a rfl e).trans b.2⟩, n, rl⟩
    | oT ds =>
      obtain ⟨l, a, xs, e, y, b, n, rl⟩ := r
      exact ⟨l, a, xs, e, y, ⟨b.1, (off a rfl e).trans b.2⟩, n, rl⟩
    | oK ds =>
      obtain ⟨l, a, xs, e, y, b, n, rl⟩ := r
      exact ⟨l, a, xs, e, y, ⟨b.1, (off a rfl e).trans b.2⟩, n, rl⟩
    | brw ds => exact r
theorem ZR.unguard {ι : List Addr} {H : Hp} {σ : L2.St} {z : Z} {p : Addr} {o : HO} (hb : B.fr p) (zr : ZR W ⟨B.ι, B.H, upd B.P p o⟩ ι H σ z) : ZR W B ι H σ z ∧ Fr B ι σ z p ∧ H p = some o := by
  have hp : H p = some o := zr.keepP p o upd_same
  have nn : ∀ b, upd B.P p o b = none → B.P b = none := fun b e => by
    by_cases q : b = p
    · rw [q]; exact hb.2
    · rw [upd_ne q] at e; exact e
  have np : ∀ b, upd B.P p o b = none → b ≠ p := fun b e q => by rw [q, upd_same] at e; cases e
  refine ⟨⟨zr.st, zr.pre, zr.new, zr.keep, fun a ha => nn a (zr.newP a ha), fun b u e => zr.keepP b u ?_, zr.len, fun i dv x => ?_, zr.dis⟩, ⟨hb, fun h => np p (zr.newP p h) rfl, fun j dv x ho hs => ?_⟩, hp⟩
  · show upd B.P p o b = some u
    rw [upd_ne (fun q => by rw [q, hb.2] at e; cases e)]
    exact e
  · obtain ⟨v, hv, r⟩ := zr.slot i dv x
    refine ⟨v, hv, ?_⟩
    cases dv with
    | imm d => exact r
    | own ds =>
      obtain ⟨l, a, xs, e, y, b, n, rl⟩ := r
      exact ⟨l, a, xs, e, y, ⟨b.1, nn a b.2⟩, n, rl⟩
    | oT ds =>
      obtain ⟨l, a, xs, e, y, b, n, rl⟩ := r
      exact ⟨l, a, xs, e, y, ⟨b.1, nn a b.2⟩, n, rl⟩
    | oK ds =>
      obtain ⟨l, a, xs, e, y, b, n, rl⟩ := r
      exact ⟨l, a, xs, e, y, ⟨b.1, nn a b.2⟩, n, rl⟩
    | brw ds => exact r
  · obtain ⟨v, hv, r⟩ := zr.slot j dv x
    rw [hs] at hv; cases hv
    cases dv with
    | imm d => cases ho
    | brw d => cases ho
    | own ds => obtain ⟨l, a, xs, e, y, b, n, rl⟩ := r; cases e; exact np _ b.2 rfl
    | oT ds => obtain ⟨l, a, xs, e, y, b, n, rl⟩ := r; cases e; exact np _ b.2 rfl
    | oK ds => obtain ⟨l, a, xs, e, y, b, n, rl⟩ := r; cases e; exact np _ b.2 rfl
end
end DE
set_option Elab.async false
set_option linter.all false
set_option maxRecDepth 100000
set_option maxHeartbeats 4000000
/-! DE6: list comprehensions; a def by its body. -/
namespace DE
open PySem PySem.Spec L2
/-- a comprehension's target: a name, or names -/
inductive CT where
  | nm (i : Nat) | tp (is : List Nat)
def CT.slots : CT → List Nat
  | .nm i => [i]
  | .tp is => is
def setsR (ρ : Rho) : List Nat → List D → Rho
  | i :: is, d :: ds => setsR (ρ.set i (some (.imm d))) is ds
  | _, _ => ρ
def setsV (σ : L2.St) : List Nat → List V → L2.St
  | i :: is, v :: vs => setsV (σ.set i (some v)) is vs
  | _, _ => σ
def ctD : CT → D → Z → Option Z
  | .nm i, d, z => some (z.1.set i (some (.imm d)), z.2)
  | .tp is, d, z => (itemsOf d).bind fun ds => if ds.length = is.length then some (setsR z.1 is ds, z.2) else none
def gNames (is : List Nat) : TGs := fun vs σ H Q => vs.length = is.length ∧ Q (setsV σ is vs) H
def ctg (K : PySem.W.Frag) : CT → TG
  | .nm i => gName i
  | .tp is => fun v σ H Q => gTup K is.length (gNames is) v σ H Q ∨ gUnl K is.length (gNames is) v σ H Q
def compL (ct : CT) (t : EvT) (f : Ev) (vs : List Nat) : List D → Z → List D → Option (List D × Z)
  | [], z, acc => some (acc, z)
  | d :: ds, z, acc => (ctD ct d z).bind fun z1 => (t z1).bind fun x => if x.1 then (f x.2).bind fun y => if y.1.plain && Nat.blt acc.length 16777216 then compL ct t f vs ds (wipeR y.2.1 vs, y.2.2) (acc ++ [y.1]) else none else compL ct t f vs ds (wipeR x.2.1 vs, x.2.2) acc
def fComp (fi : EvA) (ct : CT) (t : EvT) (f : Ev) (vs : List Nat) : EvA := fun z => (fi z).bind fun x => (compL ct t f vs x.1 (wipeR x.2.1 vs, x.2.2) []).map fun y => (y.1, (backR x.2.1 y.2.1 vs, y.2.2))
def tevX (W : Wd) (f : Ev) : TE := fun σ H Q => ∃ B, tev W B f σ H Q
def ttvX (W : Wd) (f : EvT) : TT := fun σ H Q => ∃ B, ttv W B f σ H Q
section
variable {X : Cx} {W : Wd} {B : Bs} {a b c e tg : Expr} {fa fb fc : Ev} {pos p : Pos}
theorem pe_anyB {f : Ev} (h : ∀ B, PE X e (tev W B f)) : PE X e (tevX W f) := ⟨fun pins s σ H Q I ⟨B, q⟩ => (h B).run pins s σ H Q I q⟩
theorem pts_anyB {ifs : List Expr} {f : EvT} (h : ∀ B, PTs X ifs (ttv W B f)) : PTs X ifs (ttvX W f) := ⟨fun pins s σ H Q I ⟨B, q⟩ => (h B).run pins s σ H Q I q⟩
theorem wipe_sets {vs : List Nat} : ∀ {is : List Nat} {xs : List V} {σ : L2.St}, (∀ i ∈ is, i ∈ vs) → wipe (setsV σ is xs) vs = wipe σ vs
  | [], _, _, _ => by unfold setsV; rfl
  | i :: is, [], _, _ => by unfold setsV; rfl
  | i :: is, x :: xs, σ, h => by
    unfold setsV
    rw [wipe_sets fun j hj => h j (List.mem_cons_of_mem _ hj), wipe_set (h i List.mem_cons_self)]
theorem sets_len : ∀ {is : List Nat} {xs : List V} {σ : L2.St}, (setsV σ is xs).length = σ.length
  | [], _, _ => by unfold setsV; rfl
  | i :: is, [], _ => by unfold setsV; rfl
  | i :: is, x :: xs, σ => by unfold setsV; rw [sets_len, List.length_set]
theorem ZR.sets : ∀ {is : List Nat} {ds : List D} {xs : List V} {ι : List Addr} {H : Hp} {σ : L2.St} {z : Z}, ZR W B ι H σ z → RepL W ι H ds xs → ZR W B ι H (setsV σ is xs) (setsR z.1 is ds, z.2)
  | [], _, _, _, _, _, _, zr, _ => by unfold setsV setsR; exact zr
  | i :: is, [], _, _, _, _, _, zr, r => by
    unfold RepL at r; subst r
    unfold setsV setsR; exact zr
  | i :: is, d :: ds, _, _, _, _, _, zr, r => by
    unfold RepL at r
    obtain ⟨v, vs, rfl, p, h1, h2⟩ := r
    unfold setsV setsR
    exact ZR.sets (zr.set p h1) h2
/-- the target takes the item -/
theorem ctg_run {ct : CT} {ι : List Addr} {H : Hp} {σ : L2.St} {z z' : Z} {d : D} {v : V} {vs : List Nat} {Q : L2.St → Hp → Prop} (hK : X.K = W.K) (zr : ZR W B ι H σ z) (p : d.plain = true) (r : Rep W ι H d v) (e : ctD ct d z = some z') (hs : ∀ i ∈ ct.slots, i ∈ vs)
    (k : ∀ σ', wipe σ' vs = wipe σ vs → σ'.length = σ.length → ZR W B ι H σ' z' → Q σ' H) : ctg X.K ct v σ H Q := by
  cases ct with
  | nm i =>
    cases e
    exact k _ (wipe_set (hs i (List.mem_singleton.mpr rfl))) (List.length_set ..) (zr.set p r)
  | tp is =>
    have e : ((itemsOf d).bind fun ds => if ds.length = is.length then some ((setsR z.1 is ds, z.2) : Z) else none) = some z' := e
    cases e2 : itemsOf d with
    | none => rw [e2] at e; cases e
    | some ds =>
      rw [e2, Option.bind_some] at e
      split at e
      · rename_i hl
        cases e
        cases d with
        | tup l =>
          cases e2
          unfold Rep at r
          obtain ⟨_, a, xs, ev, hx, rl⟩ := r
          have hl' : xs.length = is.length := by rw [← rl.length]; exact hl
          exact .inl ⟨a, xs, ev, hK ▸ hx, hl', hl', k _ (wipe_sets hs) sets_len (zr.sets rl)⟩
        | lst l =>
          cases e2
          unfold Rep at r
          obtain ⟨_, a, xs, ev, hx, rl⟩ := r
          have hl' : xs.length = is.length := by rw [← rl.length]; exact hl
          exact .inr ⟨a, xs, ev, (hK.symm ▸ hx.sq), hl', hl', k _ (wipe_sets hs) sets_len (zr.sets rl)⟩
        | _ => cases e2
      · cases e
theorem tlc_of {fi : EvA} {ct : CT} {t : EvT} {f : Ev} {vs : List Nat} (hK : X.K = W.K) (hct : ∀ i ∈ ct.slots, i ∈ vs) (σ : L2.St) (H : Hp) (Q : VK) (q : tfr W B (fComp fi ct t f vs) σ H Q) : tLc (tiv W B fi) (ctg X.K ct) (ttvX W t) (tevX W f) vs σ H Q := by
  obtain ⟨ι, z, rs, z', zr, e1, k⟩ := q
  unfold fComp at e1
  cases ei : fi z with
  | none => rw [ei] at e1; cases e1
  | some x =>
    rw [ei, Option.bind_some] at e1
    obtain ⟨its, z1⟩ := x
    cases ec : compL ct t f vs its (wipeR z1.1 vs, z1.2) [] with
    | none => rw [ec] at e1; cases e1
    | some y =>
      rw [ec] at e1; cases e1
      refine ⟨ι, z, its, z1, zr, ei, fun J G ι1 H1 k1 zr1 wl g1 gk D hD => ?_⟩
      have zw1 : ZR W B ι1 H1 (wipe σ vs) (wipeR z1.1 vs, z1.2) := zr1.wiped rfl rfl
      have frD : B.fr D := (Fr.of zr1 hD).b
      refine ⟨fun i m H2 => m = its.length - i ∧ i ≤ its.length ∧ ∃ ι2 z2 acc accV, Kp ι1 H1 ι2 H2 ∧ ZR W B ι2 H2 (wipe σ vs) z2 ∧ Fr B ι2 (wipe σ vs) z2 D ∧ H2 D = some (.lst accV) ∧ RepL W ι2 H2 acc accV ∧ acc.length ≤ sizeLine ∧ compL ct t f vs (its.drop i) z2 acc = some y,
        ⟨its.length, by simp, Nat.zero_le _, ι1, _, [], [], Kp.alloc hD, zw1.alloc hD, ⟨frD, (Fr.of zr1 hD).i, (Fr.of zw1 hD).o⟩, upd_same, .nil, Nat.zero_le _, by simpa using ec⟩, ?_⟩
      rintro i m H2 ⟨rfl, hile, ι2, z2, acc, accV, k2, zr2, fr2, hD2, rl2, al2, e2⟩
      have g2 := gk ι2 H2 k2
      by_cases hlt : i < its.length
      · have hd : its.drop i = its[i] :: its.drop (i + 1) := List.drop_eq_getElem_cons hlt
        rw [hd] at e2
        unfold compL at e2
        cases eg : ctD ct its[i] z2 with
        | none => rw [eg] at e2; cases e2
        | some z3 =>
          rw [eg, Option.bind_some] at e2
          cases et : t z3 with
          | none => rw [et] at e2; cases e2
          | some xt =>
            rw [et, Option.bind_some] at e2
            obtain ⟨bt, z4⟩ := xt
            refine .inr ⟨wl.goes i H2 hlt g2, fun H5 => ∃ ι5 z5 acc5 accV5, Kp ι1 H1 ι5 H5 ∧ ZR W B ι5 H5 (wipe σ vs) z5 ∧ Fr B ι5 (wipe σ vs) z5 D ∧ H5 D = some (.lst accV5) ∧ RepL W ι5 H5 acc5 accV5 ∧ acc5.length ≤ sizeLine ∧ compL ct t f vs (its.drop (i + 1)) z5 acc5 = some y, ?_, ?_⟩
            · rintro H5 ⟨ι5, z5, acc5, accV5, h5⟩
              exact ⟨its.length - (i + 1), by omega, rfl, hlt, ι5, z5, acc5, accV5, h5⟩
            · intro x H3 hy
              obtain ⟨sm, yl⟩ := wl.yields i H2 x H3 hlt g2 hy
              obtain ⟨pl, rp⟩ := yl its[i] ι2 (List.getElem?_eq_getElem hlt) k2
              have zr3 : ZR W ⟨B.ι, B.H, upd B.P D (.lst accV)⟩ ι2 H3 (wipe σ vs) z2 := (zr2.guard fr2 hD2).same sm
              have k3 : Kp ι1 H1 ι2 H3 := k2.trans (Kp.same sm)
              refine ctg_run hK zr3 pl rp eg hct fun σ2 hw hl2 zr4 => ⟨by rw [hw, wipe_wipe], ⟨⟨B.ι, B.H, upd B.P D (.lst accV)⟩, ι2, z3, bt, z4, zr4, et, fun ι5 H5 k5 zr5 => ?_⟩⟩
              have hl3 : σ2.length = σ.length := by rw [hl2, wipe_length]
              have hw3 : wipe σ2 vs = wipe σ vs := by rw [hw, wipe_wipe]
              cases bt with
              | false =>
                dsimp only
                rw [if_neg Bool.false_ne_true]
                obtain ⟨zu, fu, hu⟩ := ZR.unguard frD zr5
                have zw := zu.wiped hw3 hl3
                refine ⟨ι5, _, acc, accV, k3.trans k5, zw, ⟨frD, fu.i, fun j dv hj ho hs => ?_⟩, hu, rl2.kp ((Kp.same sm).trans k5), al2, e2⟩
                obtain ⟨g, n⟩ := wipeR_get hj
                refine fu.o j dv g ho ?_
                rw [wipe_get, if_neg n] at hs
                have : (wipe σ2 vs)[j]? = (wipe σ vs)[j]? := by rw [hw3]
                rw [wipe_get, wipe_get, if_neg n, if_neg n] at this
                rw [this]; exact hs
              | true =>
                dsimp only
                rw [if_pos rfl]
                simp only [if_true] at e2
                cases ef : f z4 with
                | none => rw [ef] at e2; cases e2
                | some yf =>
                  rw [ef, Option.bind_some] at e2
                  split at e2
                  · rename_i hcond
                    rw [Bool.and_eq_true] at hcond
                    have hlen : acc.length < 16777216 := by
                      have := Nat.le_of_ble_eq_true hcond.2
                      omega
                    refine ⟨⟨B.ι, B.H, upd B.P D (.lst accV)⟩, ι5, z4, yf.1, yf.2, zr5, ef, fun vy ι6 H6 k6 r6 zr6 => ?_⟩
                    obtain ⟨zu, fu, hu⟩ := ZR.unguard frD zr6
                    have rl6 : RepL W ι6 H6 acc accV := rl2.kp (((Kp.same sm).trans k5).trans k6)
                    have k7 : Kp ι6 H6 ι6 (upd H6 D (.lst (accV ++ [vy]))) := Kp.at_ hu rfl (fun _ _ _ q => by cases q)
                    have zw := (zu.at_fr fu k7).wiped hw3 hl3
                    refine ⟨accV, hu, by rw [← rl6.length, sizeLine_eq]; exact hlen, ι6, _, acc ++ [yf.1], accV ++ [vy], ((k3.trans k5).trans k6).trans k7, zw, ⟨frD, fu.i, fun j dv hj ho hs => ?_⟩, upd_same, (rl6.append (.cons hcond.1 (r6.rep hcond.1) .nil)).kp k7, by rw [List.length_append, sizeLine_eq]; simp; omega, e2⟩
                    obtain ⟨g, n⟩ := wipeR_get hj
                    refine fu.o j dv g ho ?_
                    rw [wipe_get, if_neg n] at hs
                    have : (wipe σ2 vs)[j]? = (wipe σ vs)[j]? := by rw [hw3]
                    rw [wipe_get, wipe_get, if_neg n, if_neg n] at this
                    rw [this]; exact hs
                  · cases e2
      · have e : i = its.length := by omega
        subst e
        rw [List.drop_length] at e2
        cases e2
        refine .inl ⟨wl.stops H2 g2, ?_⟩
        have zb := zr1.back k2 zr2
        refine k D accV ι2 H2 (k1.trans k2) zb rl2 al2 (k1.th D hD) hD2 ⟨frD, fr2.i, fun j dv hj ho hs => ?_⟩
        rcases backR_get hj with ⟨n, g⟩ | ⟨_, d, rfl, _⟩
        · exact fr2.o j dv g ho (by rw [wipe_get, if_neg n]; exact hs)
        · cases ho
theorem pe_compD {elt iter : Expr} {ifs : List Expr} {scope : Scope} {own : List (Str × Nat)} {fi : EvA} {ct : CT} {t : EvT} {f : Ev} (hK : X.K = W.K) (hc : X.calm = true) (hN : X.N.Nodup) (hi : PI X tg iter (tiv W B fi)) (ok : BlkOk X.N X.env.scope scope own)
    (hg : ∀ (s : Shared) (H : Hp) (C : Addr) (cl : List (Str × Addr)) (fp : List Addr), PG (X.blk s H scope (compEnvC scope cl C X.env) fp) tg (ctg X.K ct)) (hct : ∀ i ∈ ct.slots, i ∈ own.map (·.2))
    (ht : ∀ (s : Shared) (H : Hp) (C : Addr) (cl : List (Str × Addr)) (fp : List Addr) (B : Bs), PTs (X.blk s H scope (compEnvC scope cl C X.env) fp) ifs (ttv W B t))
    (he : ∀ (s : Shared) (H : Hp) (C : Addr) (cl : List (Str × Addr)) (fp : List Addr) (B : Bs), PE (X.blk s H scope (compEnvC scope cl C X.env) fp) elt (tev W B f)) (hs : ∀ x, foldedSetIterable iter X.env x = pure x) :
    PE X (.ListComp elt [⟨tg, iter, ifs, 0⟩] scope pos) (tfr W B (fComp fi ct t f (own.map (·.2)))) := by
  exact pe_mono (pe_lc hc hN hi ok hg (fun s H C cl fp => pts_anyB (ht s H C cl fp)) (fun s H C cl fp => pe_anyB (he s H C cl fp)) hs) (tlc_of hK hct)
/-! ### names as targets -/
theorem pgs_names : ∀ {es : List Expr} {is : List Nat}, X.N.Nodup → (Paired (fun (e : Expr) (i : Nat) => ∃ x p, e = .Name x p ∧ X.N[i]? = some x ∧ Loc X.env.scope x ∧ (X.fn x = true ∨ X.env.scope.names.lookup x = some .local)) es is) → PGs X es (gNames is)
  | [], [], _, .nil => pgs_mono pgs_nil fun v σ H Q q => by
      have e : v = [] := List.length_eq_zero_iff.mp q.1
      subst e
      exact ⟨rfl, q.2⟩
  | e :: es, i :: is, hN, .cons h t => by
    obtain ⟨x, p, rfl, h1, h2, h3⟩ := h
    refine pgs_mono (pgs_cons (pg_name hN h1 h2 h3) (pgs_names hN t)) fun v σ H Q q => ?_
    obtain ⟨hl, q⟩ := q
    cases v with
    | nil => cases hl
    | cons v vs => exact ⟨v, vs, rfl, by simpa using hl, q⟩
end
end DE
set_option Elab.async false
set_option linter.all false
set_option maxRecDepth 100000
set_option maxHeartbeats 4000000
/-! DE7: the program's text as a small tree, its meaning on data. -/
namespace DE
open PySem PySem.Spec L2
mutual
/-- expressions; functions of the model's data stand in the tree itself -/
inductive E where
  | var (i : Nat)
  | cst (d : D)
  | glo (x : Str) (d : D)
  | bin (o : Operator) (f : D → D → Option D) (a b : E)
  | cmp (o : CmpOp) (f : D → D → Option D) (a b : E)
  | chn (o o' : CmpOp) (f f' : D → D → Option D) (a b c : E)
  | un (o : UnaryOp) (f : D → Option D) (a : E)
  | boo (c : Bool) (es : Es)
  | not (a : E)
  | ife (t a b : E)
  | tup (es : Es)
  | esc (a : E)
  | call (x : Str) (n : Nat) (g : Fn) (es : Es)
  | bc (x : Str) (f : List D → Option D) (es : Es)
  | bt (x : Str) (f : List D → Option D) (es : Es)
  | mth (T : String) (m : Str) (f : D → List D → Option D) (a : E) (es : Es)
  | own (i : Nat) (m : Str) (f : List D → List D → Option (D × List D)) (es : Es)
  | app (i : Nat) (es : Es)
  | idx (f : D → D → Option D) (a b : E)
  | slc (f : D → Option Int → Option Int → Option D) (a : E) (lo hi : Oe)
  | fr (f : FE)
  | cel (f : FE)
  | ext (sh : Scope → Expr → Option (List Expr)) (sem : List Ev → Ev) (es : Es)
inductive Es where
  | nil
  | cons (e : E) (es : Es)
  | star (e : E) (es : Es)
inductive Oe where
  | no
  | yes (e : E)
/-- fresh lists -/
inductive FE where
  | dsp (es : Es)
  | comp (it : IE) (ct : CT) (t : Oe) (e : E) (own : List (Str × Nat))
  | bl (x : Str) (f : List D → Option (List D)) (es : Es)
  | blt (x : Str) (f : List D → Option (List D)) (es : Es)
  | ext (sh : Scope → Expr → Option (List Expr)) (sem : List Ev → EvA) (es : Es)
/-- what is walked -/
inductive IE where
  | ex (e : E)
  | rg1 (e : E)
  | rg2 (a b : E)
  | zip (a b : E)
  | ext (sh : Scope → Expr → Expr → Option (List Expr)) (sem : List Ev → EvA) (es : Es)
end
mutual
def evE : E → Ev
  | .var i => fVar i
  | .cst d => fC d
  | .glo _ d => fC d
  | .bin _ f a b => fBin f (evE a) (evE b)
  | .cmp _ f a b => fBin f (evE a) (evE b)
  | .chn _ _ f f' a b c => fChn f f' (evE a) (evE b) (evE c)
  | .un _ f a => fUn f (evE a)
  | .boo c es => evB c es
  | .not a => fNot (evE a)
  | .ife t a b => fIf (evT t) (evE a) (evE b)
  | .tup es => fTup (evEs es)
  | .esc a => fEsc (evE a)
  | .call _ n g es => fCall n g (evEs es)
  | .bc _ f es => fBc f (evEs es)
  | .bt _ f es => fBc f (evEs es)
  | .mth T _ f a es => fMt T f (evE a) (evEs es)
  | .own i _ f es => fOwn i f (evEs es)
  | .app i es => fApp i (evEs es)
  | .idx f a b => fBin f (evE a) (evE b)
  | .slc f a lo hi => fSl f (evE a) (evO lo) (evO hi)
  | .fr f => fLst (evF f)
  | .cel f => fCel (evF f)
  | .ext _ sem es => sem (evL es)
def evT : E → EvT
  | .boo c es => evBT c es
  | .not a => gNot (evT a)
  | .ife _ _ _ => fun _ => none
  | .var i => asT (fVar i)
  | .cst d => asT (fC d)
  | .glo _ d => asT (fC d)
  | .bin _ f a b => asT (fBin f (evE a) (evE b))
  | .cmp _ f a b => asT (fBin f (evE a) (evE b))
  | .chn _ _ f f' a b c => asT (fChn f f' (evE a) (evE b) (evE c))
  | .un _ f a => asT (fUn f (evE a))
  | .call _ n g es => asT (fCall n g (evEs es))
  | .bc _ f es => asT (fBc f (evEs es))
  | .bt _ f es => asT (fBc f (evEs es))
  | .mth T _ f a es => asT (fMt T f (evE a) (evEs es))
  | .idx f a b => asT (fBin f (evE a) (evE b))
  | .ext _ sem es => asT (sem (evL es))
  | _ => fun _ => none
/-- one by one -/
def evL : Es → List Ev
  | .nil => []
  | .cons e es => evE e :: evL es
  | .star _ _ => []
def evEs : Es → EvA
  | .nil => fNil
  | .cons e es => fCons (evE e) (evEs es)
  | .star e es => fStar (evE e) (evEs es)
def evO : Oe → EvO
  | .no => fNo
  | .yes e => fPart (evE e)
/-- and (true), or (false), as a value -/
def evB : Bool → Es → Ev
  | _, .nil => fun _ => none
  | _, .star _ _ => fun _ => none
  | _, .cons e .nil => evE e
  | true, .cons e (.cons e2 es) => fAnd (evE e) (evB true (.cons e2 es))
  | false, .cons e (.cons e2 es) => fOr (evE e) (evB false (.cons e2 es))
  | _, .cons _ (.star _ _) => fun _ => none
def evBT : Bool → Es → EvT
  | _, .nil => fun _ => none
  | _, .star _ _ => fun _ => none
  | _, .cons e .nil => evT e
  | true, .cons e (.cons e2 es) => gAnd (evT e) (evBT true (.cons e2 es))
  | false, .cons e (.cons e2 es) => gOr (evT e) (evBT false (.cons e2 es))
  | _, .cons _ (.star _ _) => fun _ => none
def evF : FE → EvA
  | .dsp es => fDsp (evEs es)
  | .comp it ct t e own => fComp (evI it) ct (evOT t) (evE e) (own.map (·.2))
  | .bl _ f es => fBl f (evEs es)
  | .blt _ f es => fBl f (evEs es)
  | .ext _ sem es => sem (evL es)
def evOT : Oe → EvT
  | .no => fun z => some (true, z)
  | .yes e => evT e
def evI : IE → EvA
  | .ex e => fIt (evE e)
  | .rg1 e => fRng1 (fCons (evE e) fNil)
  | .rg2 a b => fRng2 (fCons (evE a) (fCons (evE b) fNil))
  | .zip a b => fZip (fCons (evE a) (fCons (evE b) fNil))
  | .ext _ sem es => sem (evL es)
end
end DE
set_option Elab.async false
set_option linter.all false
set_option maxRecDepth 100000
set_option maxHeartbeats 8000000
/-! DE8: a look whether a tree is that of the text; what it leans on; then the text does what the tree means. -/
namespace DE
open PySem PySem.Spec L2
/-! ### looks at the text -/
def notStar : Expr → Bool
  | .Starred _ _ => false
  | _ => true
theorem star_ok {e : Expr} {es : List Expr} {env : Env} (h : notStar e = true) : starEach (e :: es) env = (false, eval e env) :: starEach es env := by
  cases e <;> first | rfl | cases h
theorem any_ok {env : Env} {pos : Pos} : ∀ {es : List Expr}, es.all notStar = true → (backTo pos (starEach es env)).any (·.1) = false
  | [], _ => rfl
  | e :: es, h => by
    rw [List.all_cons, Bool.and_eq_true] at h
    rw [star_ok h.1]
    show (false || (backTo pos (starEach es env)).any (·.1)) = false
    rw [any_ok h.2]; rfl
theorem all_ok {env : Env} {pos : Pos} : ∀ {es : List Expr}, es.all notStar = true → (backTo pos (starEach es env)).all (fun x => !x.1) = true
  | [], _ => rfl
  | e :: es, h => by
    rw [List.all_cons, Bool.and_eq_true] at h
    rw [star_ok h.1]
    show (true && (backTo pos (starEach es env)).all (fun x => !x.1)) = true
    rw [all_ok h.2]; rfl
def few (es : List Expr) : Bool := es.all notStar && decide (es.length < 30)
theorem few_ok {env : Env} {pos : Pos} {es : List Expr} (h : few es = true) : ((backTo pos (starEach es env)).all (fun x => !x.1) && (backToKw pos (keywordEach [] env)).all (fun x => x.1.isSome)
      && decide (es.length + ([] : List Keyword).length + (if ([] : List Keyword).isEmpty then 0 else 1) < 30)) = true := by
  unfold few at h
  rw [Bool.and_eq_true, decide_eq_true_eq] at h
  rw [all_ok h.1]
  show (true && true && decide (es.length + 0 + 0 < 30)) = true
  simpa using h.2
def noSup : Expr → Bool
  | .Call (.Name _ _) [] [] _ => false
  | _ => true
theorem base_ok {o : Expr} {m : Str} {env : Env} {wh : Sem Value} (h : noSup o = true) : attributeBase o m env wh = wh := by
  unfold attributeBase
  split
  · cases h
  · rfl
def notSet : Expr → Bool
  | .Set _ _ _ => false
  | _ => true
theorem fold_ok {e : Expr} {env : Env} (h : notSet e = true) (x : Value) : foldedSetIterable e env x = pure x := by
  cases e <;> first | rfl | cases h
theorem mark_ok {op : CmpOp} {e : Expr} (h : notSet e = true) : behindInMarks op e = false := by
  cases e <;> first | rfl | cases h
def notComp : Expr → Bool
  | .ListComp _ _ _ _ => false
  | .SetComp _ _ _ _ => false
  | .DictComp _ _ _ _ _ => false
  | _ => true
theorem swap_ok {e : Expr} {t : Option Expr} {l : Nat} {env : Env} (h : notComp e = true) : swapsWith e t l env = pure false := by
  cases e <;> first | rfl | cases h
def notSlice : Expr → Bool
  | .Slice _ _ _ _ => false
  | _ => true
theorem ix_ok {e : Expr} (h : notSlice e = true) : PlainIx e := by
  intro o i
  cases e <;> first | rfl | cases h
/-- its test is its value's truth -/
def plainT : Expr → Bool
  | .UnaryOp .Not _ _ => false
  | .BoolOp _ _ _ => false
  | .IfExp _ _ _ _ => false
  | .Compare _ _ _ _ => false
  | _ => true
theorem true_ok {e : Expr} {env : Env} (h : plainT e = true) (wh : Sem Value) : isTrue e env wh = (do let v ← wh; standAt e.pos; holding [v] (truthy v)) := by
  cases e with
  | UnaryOp o a p => cases o <;> first | rfl | cases h
  | BoolOp _ _ _ => cases h
  | IfExp _ _ _ _ => cases h
  | Compare _ _ _ _ => cases h
  | _ => rfl
def vis (sc : Scope) (x : Str) : Bool := match sc.names.lookup x with
  | some .local => true
  | some .cell => true
  | some .free => true
  | _ => false
theorem vis_ok {sc : Scope} {x : Str} (h : vis sc x = true) : Vis sc x := by
  unfold vis at h
  unfold Vis
  split at h
  · exact .inl (by assumption)
  · exact .inr (.inl (by assumption))
  · exact .inr (.inr (by assumption))
  · cases h
def glb (sc : Scope) (x : Str) : Bool := match sc.names.lookup x with
  | some .globalImplicit => true
  | _ => false
theorem glb_ok {sc : Scope} {x : Str} (h : glb sc x = true) : sc.names.lookup x = some .globalImplicit := by
  unfold glb at h
  split at h
  · assumption
  · cases h
def nodbg (x : Str) : Bool := !(x == ("__debug__" : Str)) && !(x == ("__classdict__" : Str))
theorem nodbg_ok {x : Str} (h : nodbg x = true) : (x == ("__debug__" : Str)) = false ∧ (x == ("__classdict__" : Str)) = false := by
  unfold nodbg at h
  simpa using h
def cstOk : D → Const → Bool
  | .non, .none => true
  | .bl b, .bool c => b == c
  | .int i, .int j => decide (i = j)
  | .str s, .str x => decide (x = SX.S s) && Nat.ble s.length 16777216
  | _, _ => false
/-- a slot's name in a block: stored there -/
def locB (sc scope : Scope) (x : Str) : Bool := match sc.names.lookup x with
  | some .local => true
  | some .cell => scope.names.lookup x == some .cell
  | _ => false
def ctNames (N : List Str) (sc scope : Scope) : List Nat → List Expr → Bool
  | [], [] => true
  | i :: is, e :: es => (match e with
    | .Name x _ => decide (N[i]? = some x) && locB sc scope x
    | _ => false) && ctNames N sc scope is es
  | _, _ => false
/-- the target of a comprehension or a for; scope: the scope whose cells are made here -/
def chkCT (N : List Str) (sc scope : Scope) : CT → Expr → Bool
  | .nm i, .Name x _ => decide (N[i]? = some x) && locB sc scope x
  | .tp is, .Tuple es _ _ => ctNames N sc scope is es
  | _, _ => false
mutual
def chkE (N : List Str) (sc : Scope) : E → Expr → Bool
  | .var i, e => (match e with
    | .Name x _ => decide (N[i]? = some x) && vis sc x && nodbg x
    | _ => false)
  | .cst d, e => (match e with
    | .Constant c _ _ => cstOk d c
    | _ => false)
  | .glo x _, e => (match e with
    | .Name y _ => decide (y = x) && glb sc y && nodbg y
    | _ => false)
  | .bin o _ a b, e => (match e with
    | .BinOp l o' r _ => decide (o' = o) && chkE N sc a l && chkE N sc b r
    | _ => false)
  | .cmp o _ a b, e => (match e with
    | .Compare l [o'] [r] _ => decide (o' = o) && notSet r && chkE N sc a l && chkE N sc b r
    | _ => false)
  | .chn o o2 _ _ a b c, e => (match e with
    | .Compare l [o', o2'] [m, r] _ => decide (o' = o) && decide (o2' = o2) && notSet r && chkE N sc a l && chkE N sc b m && chkE N sc c r
    | _ => false)
  | .un o _ a, e => (match e with
    | .UnaryOp o' l _ => decide (o' = o) && decide (o ≠ .Not) && chkE N sc a l
    | _ => false)
  | .boo c es, e => (match e with
    | .BoolOp op vs _ => decide (op = if c then BoolOp.And else BoolOp.Or) && chkEs N sc es vs
    | _ => false)
  | .not a, e => (match e with
    | .UnaryOp .Not l _ => chkE N sc a l
    | _ => false)
  | .ife t a b, e => (match e with
    | .IfExp c l r _ => chkE N sc t c && chkE N sc a l && chkE N sc b r
    | _ => false)
  | .tup es, e => (match e with
    | .Tuple vs _ _ => chkEs N sc es vs
    | _ => false)
  | .esc a, e => chkE N sc a e
  | .call x _ _ es, e => (match e with
    | .Call (.Name y _) vs [] _ => decide (y = x) && glb sc y && nodbg y && vs.all notStar && chkEs N sc es vs
    | _ => false)
  | .bc x _ es, e => (match e with
    | .Call (.Name y _) (v :: vs) [] _ => decide (y = x) && glb sc y && nodbg y && (v :: vs).all notStar && chkEs N sc es (v :: vs)
    | _ => false)
  | .bt x _ es, e => (match e with
    | .Call (.Name y _) (v :: vs) [] _ => decide (y = x) && glb sc y && nodbg y && (v :: vs).all notStar && chkEs N sc es (v :: vs)
    | _ => false)
  | .mth _ m _ a es, e => (match e with
    | .Call (.Attribute o m' ap) vs [] cp => decide (m' = m) && noSup o && (ap.endLine == cp.line) && few vs && chkE N sc a o && chkEs N sc es vs
    | _ => false)
  | .own i m _ es, e => (match e with
    | .Call (.Attribute (.Name x _) m' ap) (v :: vs) [] cp => decide (m' = m) && decide (N[i]? = some x) && vis sc x && nodbg x && (ap.endLine == cp.line) && few (v :: vs) && chkEs N sc es (v :: vs)
    | _ => false)
  | .app i es, e => (match e with
    | .Call (.Attribute (.Name x _) m' ap) (v :: vs) [] cp => decide (m' = ("append" : Str)) && decide (N[i]? = some x) && vis sc x && nodbg x && (ap.endLine == cp.line) && few (v :: vs) && chkEs N sc es (v :: vs)
    | _ => false)
  | .idx _ a b, e => (match e with
    | .Subscript l r _ => notSlice r && chkE N sc a l && chkE N sc b r
    | _ => false)
  | .slc _ a lo hi, e => (match e with
    | .Subscript l (.Slice x y none _) _ => chkE N sc a l && chkO N sc lo x && chkO N sc hi y
    | _ => false)
  | .fr f, e => chkF N sc f e
  | .cel f, e => chkF N sc f e
  | .ext sh _ es, e => (match sh sc e with
    | some vs => plainT e && chkL N sc es vs
    | none => false)
/-- one by one -/
def chkL (N : List Str) (sc : Scope) : Es → List Expr → Bool
  | .nil, vs => (match vs with
    | [] => true
    | _ => false)
  | .cons e es, vs => (match vs with
    | v :: r => chkE N sc e v && chkL N sc es r
    | _ => false)
  | .star _ _, _ => false
def chkEs (N : List Str) (sc : Scope) : Es → List Expr → Bool
  | .nil, vs => (match vs with
    | [] => true
    | _ => false)
  | .cons e es, vs => (match vs with
    | v :: r => notStar v && chkE N sc e v && chkEs N sc es r
    | _ => false)
  | .star e es, vs => (match vs with
    | .Starred v _ :: r => chkE N sc e v && chkEs N sc es r
    | _ => false)
def chkO (N : List Str) (sc : Scope) : Oe → Option Expr → Bool
  | .no, x => (match x with
    | none => true
    | _ => false)
  | .yes e, x => (match x with
    | some v => chkE N sc e v
    | _ => false)
def chkF (N : List Str) (sc : Scope) : FE → Expr → Bool
  | .dsp es, e => (match e with
    | .List vs _ => chkEs N sc es vs
    | _ => false)
  | .comp it ct t el own, e => (match e with
    | .ListComp elt [⟨tg, iter, ifs, 0⟩] scope _ => blkC N sc scope own && chkI N sc it iter tg && notSet iter && chkCT N (relS scope sc) scope ct tg && ct.slots.all (fun i => (own.map (·.2)).contains i) && chkT N (relS scope sc) t ifs && chkE N (relS scope sc) el elt
    | _ => false)
  | .bl x _ es, e => (match e with
    | .Call (.Name y _) (v :: vs) [] _ => decide (y = x) && glb sc y && nodbg y && (v :: vs).all notStar && chkEs N sc es (v :: vs)
    | _ => false)
  | .blt x _ es, e => (match e with
    | .Call (.Name y _) (v :: vs) [] _ => decide (y = x) && glb sc y && nodbg y && (v :: vs).all notStar && chkEs N sc es (v :: vs)
    | _ => false)
  | .ext sh _ es, e => (match sh sc e with
    | some vs => chkL N sc es vs
    | none => false)
def chkT (N : List Str) (sc : Scope) : Oe → List Expr → Bool
  | .no, x => (match x with
    | [] => true
    | _ => false)
  | .yes e, x => (match x with
    | [v] => chkE N sc e v
    | _ => false)
def chkI (N : List Str) (sc : Scope) : IE → Expr → Expr → Bool
  | .ex a, e, _ => chkE N sc a e
  | .rg1 a, e, _ => (match e with
    | .Call (.Name y _) [v] [] _ => decide (y = ("range" : Str)) && glb sc y && notStar v && chkE N sc a v
    | _ => false)
  | .rg2 a b, e, _ => (match e with
    | .Call (.Name y _) [v, w] [] _ => decide (y = ("range" : Str)) && glb sc y && notStar v && notStar w && chkE N sc a v && chkE N sc b w
    | _ => false)
  | .zip a b, e, tg => (match e, tg with
    | .Call (.Name y _) [v, w] [] _, .Tuple _ _ _ => decide (y = ("zip" : Str)) && glb sc y && notStar v && notStar w && chkE N sc a v && chkE N sc b w
    | _, _ => false)
  | .ext sh _ es, e, tg => (match sh sc e tg with
    | some vs => chkL N sc es vs
    | none => false)
end
end DE
set_option Elab.async false
set_option linter.all false
set_option maxRecDepth 100000
set_option maxHeartbeats 8000000
/-! DE9: what a tree leans on, and that the text does what the tree means: expressions. -/
namespace DE
open PySem PySem.Spec L2
/-- the program, the world, the module's names, the base; the words -/
structure GX where
  P : Program
  w : World
  mg : Str → Option Value
  base : Heap
  W : Wd
structure Adm (W : Wd) (X : Cx) : Prop where
  k : X.K = W.K
  calm : X.calm = true
  room : Room 0 X.A
  gd : X.A.guards = some []
structure Fits (G : GX) (lv : Nat) (N : List Str) (sc : Scope) (X : Cx) : Prop where
  pr : X.prog = G.P
  hw : X.w = G.w
  k : X.K = G.W.K
  mg : X.mg = G.mg
  bs : X.base = G.base
  calm : X.calm = true
  room : Room lv X.A
  gd : X.A.guards = some []
  n : X.N = N
  nd : N.Nodup
  sc : X.env.scope = sc
  nox : X.xe = fun _ _ => False
theorem Fits.adm {G : GX} {lv : Nat} {N : List Str} {sc : Scope} {X : Cx} (f : Fits G lv N sc X) : Adm G.W X := ⟨f.k, f.calm, f.room.mono (Nat.zero_le _), f.gd⟩
theorem Fits.blk {G : GX} {lv : Nat} {N : List Str} {sc scope : Scope} {X : Cx} (f : Fits G lv N sc X) (s : Shared) (H : Hp) (C : Addr) (cl : List (Str × Addr)) (fp : List Addr) : Fits G lv N (relS scope sc) (X.blk s H scope (compEnvC scope cl C X.env) fp) :=
  ⟨f.pr, f.hw, f.k, f.mg, f.bs, f.calm, f.room, f.gd, f.n, f.nd, by rw [← f.sc]; rfl, rfl⟩
def BinN (W : Wd) (o : Operator) (f : D → D → Option D) : Prop := ∀ X, Adm W X → ∃ r, OpR X (binaryOp o) r ∧ OpM W r f
def CmpN (W : Wd) (o : CmpOp) (f : D → D → Option D) : Prop := ∀ X, Adm W X → ∃ r, OpR X (compareOp o) r ∧ OpOk W r f
def UnN (W : Wd) (o : UnaryOp) (f : D → Option D) : Prop := ∀ X, Adm W X → ∃ r, UnR X (unaryOp o) r ∧ UnOk W r f
def IxN (W : Wd) (f : D → D → Option D) : Prop := ∀ X, Adm W X → ∃ r, IxR X r ∧ OpM W r f
def SlN (W : Wd) (f : D → Option Int → Option Int → Option D) : Prop := ∀ X, Adm W X → ∃ r, SlR X r ∧ SlM W r f
def BcN (W : Wd) (x : Str) (f : List D → Option D) : Prop := x ≠ "__name__" ∧ ∃ id, bootBuiltins x = some (.builtin id) ∧ ∀ X, Adm W X → ∃ r, CallR X (.builtin id) r ∧ BcOk W r f
def BtN (W : Wd) (x : Str) (f : List D → Option D) : Prop := x ≠ "__name__" ∧ ∃ id, bootBuiltins x = some (.type id) ∧ ∀ X, Adm W X → ∃ r, CallR X (.type id) r ∧ BcOk W r f
def BlN (W : Wd) (x : Str) (f : List D → Option (List D)) : Prop := x ≠ "__name__" ∧ ∃ id, bootBuiltins x = some (.builtin id) ∧ ∀ X, Adm W X → ∃ r, CallR X (.builtin id) r ∧ BlOk W r f
def BltN (W : Wd) (x : Str) (f : List D → Option (List D)) : Prop := x ≠ "__name__" ∧ ∃ id, bootBuiltins x = some (.type id) ∧ ∀ X, Adm W X → ∃ r, CallR X (.type id) r ∧ BlOk W r f
def MtN (W : Wd) (T : String) (m : Str) (f : D → List D → Option D) : Prop := ∃ id, PlainAttrs T ∧ Slot T m id ∧ typeOf (.builtin id) = pure (.type "method_descriptor") ∧ ∀ X, Adm W X → ∃ r, MtR X id r ∧ MtO W r f
def OwN (W : Wd) (m : Str) (f : List D → List D → Option (D × List D)) : Prop := ∃ id, Slot "list" m id ∧ typeOf (.builtin id) = pure (.type "method_descriptor") ∧ ∀ X, Adm W X → ∃ r, MtR X id r ∧ MuO W r f
def GloN (G : GX) (x : Str) (d : D) : Prop := ∃ u v, G.mg x = some u ∧ RelV v u ∧ d.plain = true ∧ ∀ ι H, Rep G.W ι H d v
def CalN (G : GX) (lv : Nat) (x : Str) (n : Nat) (g : Fn) : Prop := ∃ k, k ≤ lv ∧ Cal G.P G.w G.W.K G.mg G.base G.W k x n g
/-- each text does what its tree means -/
abbrev PEL (X : Cx) (W : Wd) (B : Bs) : List Expr → List Ev → Prop := Paired fun e f => PE X e (tev W B f)
/-- a construct by its parts -/
def ExtN (G : GX) (lv : Nat) (sh : Scope → Expr → Option (List Expr)) (sem : List Ev → Ev) : Prop := ∀ (N : List Str) (sc : Scope) (X : Cx), Fits G lv N sc X → ∀ (e : Expr) (vs : List Expr), sh sc e = some vs → ∀ (fs : List Ev), (∀ B, PEL X G.W B vs fs) → ∀ B, PE X e (tev G.W B (sem fs))
def ExtF (G : GX) (lv : Nat) (sh : Scope → Expr → Option (List Expr)) (sem : List Ev → EvA) : Prop := ∀ (N : List Str) (sc : Scope) (X : Cx), Fits G lv N sc X → ∀ (e : Expr) (vs : List Expr), sh sc e = some vs → ∀ (fs : List Ev), (∀ B, PEL X G.W B vs fs) → ∀ B, PE X e (tfr G.W B (sem fs))
def ExtI (G : GX) (lv : Nat) (sh : Scope → Expr → Expr → Option (List Expr)) (sem : List Ev → EvA) : Prop := ∀ (N : List Str) (sc : Scope) (X : Cx), Fits G lv N sc X → ∀ (e tg : Expr) (vs : List Expr), sh sc e tg = some vs → ∀ (fs : List Ev), (∀ B, PEL X G.W B vs fs) → ∀ B, PI X tg e (tiv G.W B (sem fs))
mutual
def needE (G : GX) (lv : Nat) : E → Prop
  | .var _ => True
  | .cst _ => True
  | .glo x d => GloN G x d
  | .bin o f a b => BinN G.W o f ∧ needE G lv a ∧ needE G lv b
  | .cmp o f a b => CmpN G.W o f ∧ needE G lv a ∧ needE G lv b
  | .chn o o' f f' a b c => CmpN G.W o f ∧ CmpN G.W o' f' ∧ needE G lv a ∧ needE G lv b ∧ needE G lv c
  | .un o f a => UnN G.W o f ∧ needE G lv a
  | .boo _ es => needEs G lv es
  | .not a => needE G lv a
  | .ife t a b => needE G lv t ∧ needE G lv a ∧ needE G lv b
  | .tup es => needEs G lv es
  | .esc a => needE G lv a
  | .call x n g es => CalN G lv x n g ∧ needEs G lv es
  | .bc x f es => G.mg x = none ∧ BcN G.W x f ∧ needEs G lv es
  | .bt x f es => G.mg x = none ∧ BtN G.W x f ∧ needEs G lv es
  | .mth T m f a es => MtN G.W T m f ∧ needE G lv a ∧ needEs G lv es
  | .own _ m f es => OwN G.W m f ∧ needEs G lv es
  | .app _ es => needEs G lv es
  | .idx f a b => IxN G.W f ∧ needE G lv a ∧ needE G lv b
  | .slc f a lo hi => SlN G.W f ∧ needE G lv a ∧ needO G lv lo ∧ needO G lv hi
  | .fr f => needF G lv f
  | .cel f => needF G lv f
  | .ext sh sem es => ExtN G lv sh sem ∧ needEs G lv es
def needEs (G : GX) (lv : Nat) : Es → Prop
  | .nil => True
  | .cons e es => needE G lv e ∧ needEs G lv es
  | .star e es => needE G lv e ∧ needEs G lv es
def needO (G : GX) (lv : Nat) : Oe → Prop
  | .no => True
  | .yes e => needE G lv e
def needF (G : GX) (lv : Nat) : FE → Prop
  | .dsp es => needEs G lv es
  | .comp it _ t e _ => needI G lv it ∧ needO G lv t ∧ needE G lv e
  | .bl x f es => G.mg x = none ∧ BlN G.W x f ∧ needEs G lv es
  | .blt x f es => G.mg x = none ∧ BltN G.W x f ∧ needEs G lv es
  | .ext sh sem es => ExtF G lv sh sem ∧ needEs G lv es
def needI (G : GX) (lv : Nat) : IE → Prop
  | .ex e => needE G lv e
  | .rg1 e => G.mg "range" = none ∧ needE G lv e
  | .rg2 a b => G.mg "range" = none ∧ needE G lv a ∧ needE G lv b
  | .zip a b => G.mg "zip" = none ∧ needE G lv a ∧ needE G lv b
  | .ext sh sem es => ExtI G lv sh sem ∧ needEs G lv es
end
theorem pts_nilD {X : Cx} {W : Wd} {B : Bs} : PTs X [] (ttv W B fun z => some (true, z)) := ⟨fun pins s σ H Q I q => pts_nil.run pins s σ H Q I (by
  obtain ⟨ι, z, b, z', zr, e, k⟩ := q
  cases e
  exact k ι H .refl zr)⟩
theorem pts_oneD {X : Cx} {W : Wd} {B : Bs} {c : Expr} {t : EvT} (h : PT X c (ttv W B t)) : PTs X [c] (ttv W B t) := pts_one h
theorem locB_ok {sc scope : Scope} {x : Str} (h : locB sc scope x = true) : Loc sc x ∧ ((scope.names.lookup x == some .cell) = true ∨ sc.names.lookup x = some .local) := by
  unfold locB at h
  split at h
  · rename_i q; exact ⟨.inl q, .inr q⟩
  · rename_i q; exact ⟨.inr q, .inl h⟩
  · cases h
theorem ctNames_ok {N : List Str} {sc scope : Scope} : ∀ {is : List Nat} {es : List Expr}, ctNames N sc scope is es = true → Paired (fun (e : Expr) (i : Nat) => ∃ x p, e = .Name x p ∧ N[i]? = some x ∧ Loc sc x ∧ ((scope.names.lookup x == some .cell) = true ∨ sc.names.lookup x = some .local)) es is
  | [], [], _ => .nil
  | [], _ :: _, h => by cases h
  | _ :: _, [], h => by cases h
  | i :: is, e :: es, h => by
    unfold ctNames at h
    rw [Bool.and_eq_true] at h
    refine .cons ?_ (ctNames_ok h.2)
    have h1 := h.1
    split at h1
    · rename_i x p
      rw [Bool.and_eq_true, decide_eq_true_eq] at h1
      obtain ⟨l1, l2⟩ := locB_ok h1.2
      exact ⟨x, p, rfl, h1.1, l1, l2⟩
    · cases h1
theorem assign_len {env : Env} : ∀ {es : List Expr} {is : List Nat} {F : Expr → Nat → Prop}, Paired F es is → (∀ e i, F e i → ∃ x p, e = .Name x p) → (assignEach es env).length = is.length ∧ (assignEach es env).findIdx? (·.1) = none
  | _, _, _, .nil, _ => ⟨rfl, rfl⟩
  | e :: es, i :: is, F, .cons h t, hF => by
    obtain ⟨x, p, rfl⟩ := hF _ _ h
    obtain ⟨a, b⟩ := assign_len (env := env) t hF
    refine ⟨by show (assignEach es env).length + 1 = _; rw [a]; rfl, ?_⟩
    show (List.findIdx? (·.1) ((false, assign (.Name x p) env) :: assignEach es env)) = none
    rw [List.findIdx?_cons]
    simp [b]
/-- the target of a for or a comprehension, where fx tells whose cells are made here -/
theorem ct_ok {X : Cx} {N : List Str} {sc scope : Scope} {ct : CT} {tg : Expr} (hc : X.calm = true) (hn : X.N = N) (nd : N.Nodup) (hsc : X.env.scope = sc) (hfn : ∀ x, (scope.names.lookup x == some .cell) = true → X.fn x = true) (h : chkCT N sc scope ct tg = true) : PG X tg (ctg X.K ct) := by
  unfold chkCT at h
  split at h
  · rename_i i x p
    rw [Bool.and_eq_true, decide_eq_true_eq] at h
    obtain ⟨l1, l2⟩ := locB_ok h.2
    exact pg_name (by rw [hn]; exact nd) (by rw [hn]; exact h.1) (by rw [hsc]; exact l1) (l2.elim (fun q => .inl (hfn x q)) fun q => .inr (by rw [hsc]; exact q))
  · rename_i is es n p
    have q := ctNames_ok h
    have gs : PGs X es (gNames is) := pgs_names (by rw [hn]; exact nd) (Paired.mapP q fun e i ⟨x, p, e1, h1, l1, l2⟩ => ⟨x, p, e1, by rw [hn]; exact h1, by rw [hsc]; exact l1, l2.elim (fun q => .inl (hfn x q)) fun q => .inr (by rw [hsc]; exact q)⟩)
    obtain ⟨a, b⟩ := assign_len (env := X.env) q fun e i ⟨x, p, e1, _⟩ => ⟨x, p, e1⟩
    exact pg_or (pg_tup hc gs a b) (pg_unl hc gs a b)
  · cases h
mutual
theorem sE {G : GX} {lv : Nat} : ∀ (ir : E) {N : List Str} {sc : Scope} {e : Expr}, chkE N sc ir e = true → needE G lv ir → ∀ {X : Cx}, Fits G lv N sc X → ∀ B : Bs, PE X e (tev G.W B (evE ir))
  | .var i, N, sc, e, h, n, X, fx, B => by
    unfold chkE at h
    split at h
    · simp only [Bool.and_eq_true, decide_eq_true_eq] at h
      have d := nodbg_ok h.2
      exact pe_varD (by rw [fx.n]; exact h.1.1) (by rw [fx.sc]; exact vis_ok h.1.2) d.1 d.2
    · cases h
  | .cst d, N, sc, e, h, n, X, fx, B => by
    unfold chkE at h
    split at h
    · rename_i c k p
      unfold cstOk at h
      split at h
      · exact pe_nonD
      · rw [eq_of_beq h]; exact pe_boolD
      · rw [of_decide_eq_true h]; exact pe_intD
      · rw [Bool.and_eq_true, decide_eq_true_eq] at h
        exact pe_strD h.1 (by rw [sizeLine_eq]; exact Nat.le_of_ble_eq_true h.2)
      · cases h
    · cases h
  | .glo x d, N, sc, e, h, n, X, fx, B => by
    unfold chkE at h
    split at h
    · simp only [Bool.and_eq_true, decide_eq_true_eq] at h
      obtain ⟨⟨rfl, h2⟩, h3⟩ := h
      unfold needE at n
      obtain ⟨u, v, m, r, p, rp⟩ := n
      exact pe_globD (show X.env.scope.names.lookup _ = _ by rw [fx.sc]; exact glb_ok h2) (by rw [fx.mg]; exact m) r p rp (nodbg_ok h3).1
    · cases h
  | .bin o f a b, N, sc, e, h, n, X, fx, B => by
    unfold chkE at h
    split at h
    · simp only [Bool.and_eq_true, decide_eq_true_eq] at h
      obtain ⟨⟨rfl, h2⟩, h3⟩ := h
      unfold needE at n
      obtain ⟨r, ho, ok⟩ := n.1 X fx.adm
      exact pe_binM ho ok (sE a h2 n.2.1 fx B) (sE b h3 n.2.2 fx B)
    · cases h
  | .cmp o f a b, N, sc, e, h, n, X, fx, B => by
    unfold chkE at h
    split at h
    · simp only [Bool.and_eq_true, decide_eq_true_eq] at h
      obtain ⟨⟨⟨rfl, hm⟩, h2⟩, h3⟩ := h
      unfold needE at n
      obtain ⟨r, ho, ok⟩ := n.1 X fx.adm
      exact pe_cmpD ho ok (sE a h2 n.2.1 fx B) (sE b h3 n.2.2 fx B) (mark_ok hm)
    · cases h
  | .chn o o2 f f2 a b c, N, sc, e, h, n, X, fx, B => by
    unfold chkE at h
    split at h
    · simp only [Bool.and_eq_true, decide_eq_true_eq] at h
      obtain ⟨⟨⟨⟨⟨rfl, rfl⟩, hm⟩, h2⟩, h3⟩, h4⟩ := h
      unfold needE at n
      obtain ⟨r, ho, ok⟩ := n.1 X fx.adm
      obtain ⟨r', ho', ok'⟩ := n.2.1 X fx.adm
      exact pe_chnD ho ok ho' ok' (sE a h2 n.2.2.1 fx B) (sE b h3 n.2.2.2.1 fx B) (sE c h4 n.2.2.2.2 fx B) (mark_ok hm)
    · cases h
  | .un o f a, N, sc, e, h, n, X, fx, B => by
    unfold chkE at h
    split at h
    · simp only [Bool.and_eq_true, decide_eq_true_eq] at h
      obtain ⟨⟨rfl, _⟩, h2⟩ := h
      unfold needE at n
      obtain ⟨r, ho, ok⟩ := n.1 X fx.adm
      exact pe_unD ho ok (sE a h2 n.2 fx B)
    · cases h
  | .boo c es, N, sc, e, h, n, X, fx, B => by
    unfold chkE at h
    split at h
    · simp only [Bool.and_eq_true, decide_eq_true_eq] at h
      obtain ⟨rfl, h2⟩ := h
      unfold needE at n
      exact sB c es h2 n fx B
    · cases h
  | .not a, N, sc, e, h, n, X, fx, B => by
    unfold chkE at h
    split at h
    · unfold needE at n
      exact pe_notD (sE a h n fx B)
    · cases h
  | .ife t a b, N, sc, e, h, n, X, fx, B => by
    unfold chkE at h
    split at h
    · simp only [Bool.and_eq_true] at h
      unfold needE at n
      exact pe_ifD (sT t h.1.1 n.1 fx B) (sE a h.1.2 n.2.1 fx B) (sE b h.2 n.2.2 fx B)
    · cases h
  | .tup es, N, sc, e, h, n, X, fx, B => by
    unfold chkE at h
    split at h
    · unfold needE at n
      exact pe_tupD (sEs es h n fx B)
    · cases h
  | .esc a, N, sc, e, h, n, X, fx, B => by
    unfold chkE at h
    unfold needE at n
    exact pe_escD (sE a h n fx B)
  | .call x m g es, N, sc, e, h, n, X, fx, B => by
    unfold chkE at h
    split at h
    · rename_i y p vs pos
      simp only [Bool.and_eq_true, decide_eq_true_eq] at h
      obtain ⟨⟨⟨⟨rfl, h1⟩, h2⟩, h3⟩, h4⟩ := h
      unfold needE at n
      obtain ⟨⟨k, hk, cl⟩, ne⟩ := n
      have cl' : Cal X.prog X.w X.K X.mg X.base G.W k y m g := by rw [fx.pr, fx.hw, fx.k, fx.mg, fx.bs]; exact cl
      have hg : Gl X y := show X.env.scope.names.lookup _ = _ by rw [fx.sc]; exact glb_ok h1
      have ha := sEs es h4 ne fx B
      cases vs with
      | nil =>
        cases es with
        | nil => exact pe_call0D cl' fx.room fx.gd hk hg (nodbg_ok h2).1
        | cons _ _ => unfold chkEs at h4; cases h4
        | star _ _ => unfold chkEs at h4; cases h4
      | cons v vs =>
        rw [List.all_cons, Bool.and_eq_true] at h3
        exact pe_callD cl' fx.room fx.gd hk hg ha (nodbg_ok h2).1 (star_ok h3.1) (any_ok h3.2)
    · cases h
  | .bc x f es, N, sc, e, h, n, X, fx, B => by
    unfold chkE at h
    split at h
    · rename_i y p v vs pos
      simp only [Bool.and_eq_true, decide_eq_true_eq] at h
      obtain ⟨⟨⟨⟨rfl, h1⟩, h2⟩, h3⟩, h4⟩ := h
      unfold needE at n
      obtain ⟨m, ⟨nn, id, bb, hX⟩, ne⟩ := n
      obtain ⟨r, hc, ok⟩ := hX X fx.adm
      rw [List.all_cons, Bool.and_eq_true] at h3
      exact pe_bcD hc ok (show X.env.scope.names.lookup _ = _ by rw [fx.sc]; exact glb_ok h1) (by rw [fx.mg]; exact m) bb (sEs es h4 ne fx B) nn (nodbg_ok h2).1 (star_ok h3.1) (any_ok h3.2)
    · cases h
  | .bt x f es, N, sc, e, h, n, X, fx, B => by
    unfold chkE at h
    split at h
    · rename_i y p v vs pos
      simp only [Bool.and_eq_true, decide_eq_true_eq] at h
      obtain ⟨⟨⟨⟨rfl, h1⟩, h2⟩, h3⟩, h4⟩ := h
      unfold needE at n
      obtain ⟨m, ⟨nn, id, bb, hX⟩, ne⟩ := n
      obtain ⟨r, hc, ok⟩ := hX X fx.adm
      rw [List.all_cons, Bool.and_eq_true] at h3
      exact pe_btD hc ok (show X.env.scope.names.lookup _ = _ by rw [fx.sc]; exact glb_ok h1) (by rw [fx.mg]; exact m) bb (sEs es h4 ne fx B) nn (nodbg_ok h2).1 (star_ok h3.1) (any_ok h3.2)
    · cases h
  | .mth T m f a es, N, sc, e, h, n, X, fx, B => by
    unfold chkE at h
    split at h
    · rename_i o m' ap vs cp
      simp only [Bool.and_eq_true, decide_eq_true_eq] at h
      obtain ⟨⟨⟨⟨⟨rfl, h1⟩, h2⟩, h3⟩, h4⟩, h5⟩ := h
      unfold needE at n
      obtain ⟨⟨id, pa, sl, ty, hX⟩, na, ne⟩ := n
      obtain ⟨r, hm, ok⟩ := hX X fx.adm
      have ho := sE a h4 na fx B
      have ha := sEs es h5 ne fx B
      have h3' : vs.all notStar = true := by
        have := h3
        unfold few at this
        rw [Bool.and_eq_true] at this
        exact this.1
      cases vs with
      | nil =>
        cases es with
        | nil => exact pe_mt0D fx.k pa sl ty hm ok ho (base_ok h1) h2
        | cons _ _ => unfold chkEs at h5; cases h5
        | star _ _ => unfold chkEs at h5; cases h5
      | cons v vs =>
        have h6 := h3'
        rw [List.all_cons, Bool.and_eq_true] at h6
        exact pe_mtD fx.k pa sl ty hm ok ho ha (base_ok h1) (few_ok h3) h2 (star_ok h6.1) (any_ok h6.2)
    · cases h
  | .own i m f es, N, sc, e, h, n, X, fx, B => by
    unfold chkE at h
    split at h
    · rename_i x xp m' ap v vs cp
      simp only [Bool.and_eq_true, decide_eq_true_eq] at h
      obtain ⟨⟨⟨⟨⟨⟨rfl, h0⟩, h1⟩, h2⟩, h3⟩, h4⟩, h5⟩ := h
      unfold needE at n
      obtain ⟨⟨id, sl, ty, hX⟩, ne⟩ := n
      obtain ⟨r, hm, ok⟩ := hX X fx.adm
      have h6 : (v :: vs).all notStar = true := by
        have := h4
        unfold few at this
        rw [Bool.and_eq_true] at this
        exact this.1
      rw [List.all_cons, Bool.and_eq_true] at h6
      exact pe_ownD fx.k sl ty hm ok (by rw [fx.n]; exact h0) (by rw [fx.sc]; exact vis_ok h1) (nodbg_ok h2).1 (nodbg_ok h2).2 (sEs es h5 ne fx B) (base_ok rfl) (few_ok h4) h3 (star_ok h6.1) (any_ok h6.2)
    · cases h
  | .app i es, N, sc, e, h, n, X, fx, B => by
    unfold chkE at h
    split at h
    · rename_i x xp m' ap v vs cp
      simp only [Bool.and_eq_true, decide_eq_true_eq] at h
      obtain ⟨⟨⟨⟨⟨⟨rfl, h0⟩, h1⟩, h2⟩, h3⟩, h4⟩, h5⟩ := h
      unfold needE at n
      have h6 : (v :: vs).all notStar = true := by
        have := h4
        unfold few at this
        rw [Bool.and_eq_true] at this
        exact this.1
      rw [List.all_cons, Bool.and_eq_true] at h6
      exact pe_appD fx.k (by rw [fx.n]; exact h0) (by rw [fx.sc]; exact vis_ok h1) (nodbg_ok h2).1 (nodbg_ok h2).2 (sEs es h5 n fx B) (base_ok rfl) (few_ok h4) h3 (star_ok h6.1) (any_ok h6.2)
    · cases h
  | .idx f a b, N, sc, e, h, n, X, fx, B => by
    unfold chkE at h
    split at h
    · simp only [Bool.and_eq_true] at h
      unfold needE at n
      obtain ⟨r, hr, ok⟩ := n.1 X fx.adm
      exact pe_ixD hr ok (sE a h.1.2 n.2.1 fx B) (sE b h.2 n.2.2 fx B) (ix_ok h.1.1)
    · cases h
  | .slc f a lo hi, N, sc, e, h, n, X, fx, B => by
    unfold chkE at h
    split at h
    · simp only [Bool.and_eq_true] at h
      unfold needE at n
      obtain ⟨r, hr, ok⟩ := n.1 X fx.adm
      exact pe_slD hr ok (sE a h.1.1 n.2.1 fx B) (sO lo h.1.2 n.2.2.1 fx B) (sO hi h.2 n.2.2.2 fx B)
    · cases h
  | .fr f, N, sc, e, h, n, X, fx, B => by
    unfold chkE at h
    unfold needE at n
    exact pe_frzD (sF f h n fx B)
  | .cel f, N, sc, e, h, n, X, fx, B => by
    unfold chkE at h
    unfold needE at n
    exact pe_celD (sF f h n fx B)
  | .ext sh sem es, N, sc, e, h, n, X, fx, B => by
    unfold chkE at h
    split at h
    · rename_i vs hs
      rw [Bool.and_eq_true] at h
      unfold needE at n
      exact n.1 N sc X fx e vs hs _ (sL es h.2 n.2 fx) B
    · cases h
theorem sT {G : GX} {lv : Nat} : ∀ (ir : E) {N : List Str} {sc : Scope} {e : Expr}, chkE N sc ir e = true → needE G lv ir → ∀ {X : Cx}, Fits G lv N sc X → ∀ B : Bs, PT X e (ttv G.W B (evT ir))
  | .boo c es, N, sc, e, h, n, X, fx, B => by
    unfold chkE at h
    split at h
    · simp only [Bool.and_eq_true, decide_eq_true_eq] at h
      obtain ⟨rfl, h2⟩ := h
      unfold needE at n
      exact (sBT c es h2 n fx B).pt
    · cases h
  | .not a, N, sc, e, h, n, X, fx, B => by
    unfold chkE at h
    split at h
    · unfold needE at n
      exact pt_notD (sT a h n fx B)
    · cases h
  | .cmp o f a b, N, sc, e, h, n, X, fx, B => by
    unfold chkE at h
    split at h
    · simp only [Bool.and_eq_true, decide_eq_true_eq] at h
      obtain ⟨⟨⟨rfl, hm⟩, h2⟩, h3⟩ := h
      unfold needE at n
      obtain ⟨r, ho, ok⟩ := n.1 X fx.adm
      exact pt_cmpD ho ok (sE a h2 n.2.1 fx B) (sE b h3 n.2.2 fx B) (mark_ok hm)
    · cases h
  | .chn o o2 f f2 a b c, N, sc, e, h, n, X, fx, B => by
    unfold chkE at h
    split at h
    · simp only [Bool.and_eq_true, decide_eq_true_eq] at h
      obtain ⟨⟨⟨⟨⟨rfl, rfl⟩, hm⟩, h2⟩, h3⟩, h4⟩ := h
      unfold needE at n
      obtain ⟨r, ho, ok⟩ := n.1 X fx.adm
      obtain ⟨r', ho', ok'⟩ := n.2.1 X fx.adm
      exact pt_chnD ho ok ho' ok' (sE a h2 n.2.2.1 fx B) (sE b h3 n.2.2.2.1 fx B) (sE c h4 n.2.2.2.2 fx B) (mark_ok hm)
    · cases h
  | .ife _ _ _, N, sc, e, h, n, X, fx, B => ⟨fun _ _ _ _ _ _ q => by obtain ⟨_, _, _, _, _, e1, _⟩ := q; cases e1⟩
  | .tup _, N, sc, e, h, n, X, fx, B => ⟨fun _ _ _ _ _ _ q => by obtain ⟨_, _, _, _, _, e1, _⟩ := q; cases e1⟩
  | .esc _, N, sc, e, h, n, X, fx, B => ⟨fun _ _ _ _ _ _ q => by obtain ⟨_, _, _, _, _, e1, _⟩ := q; cases e1⟩
  | .own _ _ _ _, N, sc, e, h, n, X, fx, B => ⟨fun _ _ _ _ _ _ q => by obtain ⟨_, _, _, _, _, e1, _⟩ := q; cases e1⟩
  | .app _ _, N, sc, e, h, n, X, fx, B => ⟨fun _ _ _ _ _ _ q => by obtain ⟨_, _, _, _, _, e1, _⟩ := q; cases e1⟩
  | .slc _ _ _ _, N, sc, e, h, n, X, fx, B => ⟨fun _ _ _ _ _ _ q => by obtain ⟨_, _, _, _, _, e1, _⟩ := q; cases e1⟩
  | .fr _, N, sc, e, h, n, X, fx, B => ⟨fun _ _ _ _ _ _ q => by obtain ⟨_, _, _, _, _, e1, _⟩ := q; cases e1⟩
  | .cel _, N, sc, e, h, n, X, fx, B => ⟨fun _ _ _ _ _ _ q => by obtain ⟨_, _, _, _, _, e1, _⟩ := q; cases e1⟩
  | .var i, N, sc, e, h, n, X, fx, B => by
    unfold chkE at h
    split at h
    · simp only [Bool.and_eq_true, decide_eq_true_eq] at h
      have d := nodbg_ok h.2
      exact pt_valD (pe_varD (by rw [fx.n]; exact h.1.1) (by rw [fx.sc]; exact vis_ok h.1.2) d.1 d.2) (true_ok rfl)
    · cases h
  | .cst d, N, sc, e, h, n, X, fx, B => by
    unfold chkE at h
    split at h
    · rename_i c k p
      unfold cstOk at h
      split at h
      · exact pt_valD pe_nonD (true_ok rfl)
      · rw [eq_of_beq h]; exact pt_valD pe_boolD (true_ok rfl)
      · rw [of_decide_eq_true h]; exact pt_valD pe_intD (true_ok rfl)
      · rw [Bool.and_eq_true, decide_eq_true_eq] at h
        exact pt_valD (pe_strD h.1 (by rw [sizeLine_eq]; exact Nat.le_of_ble_eq_true h.2)) (true_ok rfl)
      · cases h
    · cases h
  | .glo x d, N, sc, e, h, n, X, fx, B => by
    unfold chkE at h
    split at h
    · simp only [Bool.and_eq_true, decide_eq_true_eq] at h
      obtain ⟨⟨rfl, h2⟩, h3⟩ := h
      unfold needE at n
      obtain ⟨u, v, m, r, p, rp⟩ := n
      exact pt_valD (pe_globD (show X.env.scope.names.lookup _ = _ by rw [fx.sc]; exact glb_ok h2) (by rw [fx.mg]; exact m) r p rp (nodbg_ok h3).1) (true_ok rfl)
    · cases h
  | .bin o f a b, N, sc, e, h, n, X, fx, B => by
    unfold chkE at h
    split at h
    · simp only [Bool.and_eq_true, decide_eq_true_eq] at h
      obtain ⟨⟨rfl, h2⟩, h3⟩ := h
      unfold needE at n
      obtain ⟨r, ho, ok⟩ := n.1 X fx.adm
      exact pt_valD (pe_binM ho ok (sE a h2 n.2.1 fx B) (sE b h3 n.2.2 fx B)) (true_ok rfl)
    · cases h
  | .un o f a, N, sc, e, h, n, X, fx, B => by
    unfold chkE at h
    split at h
    · simp only [Bool.and_eq_true, decide_eq_true_eq] at h
      obtain ⟨⟨rfl, h1⟩, h2⟩ := h
      unfold needE at n
      obtain ⟨r, ho, ok⟩ := n.1 X fx.adm
      refine pt_valD (pe_unD ho ok (sE a h2 n.2 fx B)) (true_ok ?_)
      rename_i o2 _ _
      cases o2 <;> first | rfl | exact absurd rfl h1
    · cases h
  | .call x m g es, N, sc, e, h, n, X, fx, B => by
    unfold chkE at h
    split at h
    · rename_i y p vs pos
      simp only [Bool.and_eq_true, decide_eq_true_eq] at h
      obtain ⟨⟨⟨⟨rfl, h1⟩, h2⟩, h3⟩, h4⟩ := h
      unfold needE at n
      obtain ⟨⟨k, hk, cl⟩, ne⟩ := n
      have cl' : Cal X.prog X.w X.K X.mg X.base G.W k y m g := by rw [fx.pr, fx.hw, fx.k, fx.mg, fx.bs]; exact cl
      have hg : Gl X y := show X.env.scope.names.lookup _ = _ by rw [fx.sc]; exact glb_ok h1
      have ha := sEs es h4 ne fx B
      cases vs with
      | nil =>
        cases es with
        | nil => exact pt_valD (pe_call0D cl' fx.room fx.gd hk hg (nodbg_ok h2).1) (true_ok rfl)
        | cons _ _ => unfold chkEs at h4; cases h4
        | star _ _ => unfold chkEs at h4; cases h4
      | cons v vs =>
        rw [List.all_cons, Bool.and_eq_true] at h3
        exact pt_valD (pe_callD cl' fx.room fx.gd hk hg ha (nodbg_ok h2).1 (star_ok h3.1) (any_ok h3.2)) (true_ok rfl)
    · cases h
  | .bc x f es, N, sc, e, h, n, X, fx, B => by
    unfold chkE at h
    split at h
    · rename_i y p v vs pos
      simp only [Bool.and_eq_true, decide_eq_true_eq] at h
      obtain ⟨⟨⟨⟨rfl, h1⟩, h2⟩, h3⟩, h4⟩ := h
      unfold needE at n
      obtain ⟨m, ⟨nn, id, bb, hX⟩, ne⟩ := n
      obtain ⟨r, hc, ok⟩ := hX X fx.adm
      rw [List.all_cons, Bool.and_eq_true] at h3
      exact pt_valD (pe_bcD hc ok (show X.env.scope.names.lookup _ = _ by rw [fx.sc]; exact glb_ok h1) (by rw [fx.mg]; exact m) bb (sEs es h4 ne fx B) nn (nodbg_ok h2).1 (star_ok h3.1) (any_ok h3.2)) (true_ok rfl)
    · cases h
  | .bt x f es, N, sc, e, h, n, X, fx, B => by
    unfold chkE at h
    split at h
    · rename_i y p v vs pos
      simp only [Bool.and_eq_true, decide_eq_true_eq] at h
      obtain ⟨⟨⟨⟨rfl, h1⟩, h2⟩, h3⟩, h4⟩ := h
      unfold needE at n
      obtain ⟨m, ⟨nn, id, bb, hX⟩, ne⟩ := n
      obtain ⟨r, hc, ok⟩ := hX X fx.adm
      rw [List.all_cons, Bool.and_eq_true] at h3
      exact pt_valD (pe_btD hc ok (show X.env.scope.names.lookup _ = _ by rw [fx.sc]; exact glb_ok h1) (by rw [fx.mg]; exact m) bb (sEs es h4 ne fx B) nn (nodbg_ok h2).1 (star_ok h3.1) (any_ok h3.2)) (true_ok rfl)
    · cases h
  | .mth T m f a es, N, sc, e, h, n, X, fx, B => by
    unfold chkE at h
    split at h
    · rename_i o m' ap vs cp
      simp only [Bool.and_eq_true, decide_eq_true_eq] at h
      obtain ⟨⟨⟨⟨⟨rfl, h1⟩, h2⟩, h3⟩, h4⟩, h5⟩ := h
      unfold needE at n
      obtain ⟨⟨id, pa, sl, ty, hX⟩, na, ne⟩ := n
      obtain ⟨r, hm, ok⟩ := hX X fx.adm
      have ho := sE a h4 na fx B
      have ha := sEs es h5 ne fx B
      have h3' : vs.all notStar = true := by
        have := h3
        unfold few at this
        rw [Bool.and_eq_true] at this
        exact this.1
      cases vs with
      | nil =>
        cases es with
        | nil => exact pt_valD (pe_mt0D fx.k pa sl ty hm ok ho (base_ok h1) h2) (true_ok rfl)
        | cons _ _ => unfold chkEs at h5; cases h5
        | star _ _ => unfold chkEs at h5; cases h5
      | cons v vs =>
        have h6 := h3'
        rw [List.all_cons, Bool.and_eq_true] at h6
        exact pt_valD (pe_mtD fx.k pa sl ty hm ok ho ha (base_ok h1) (few_ok h3) h2 (star_ok h6.1) (any_ok h6.2)) (true_ok rfl)
    · cases h
  | .idx f a b, N, sc, e, h, n, X, fx, B => by
    unfold chkE at h
    split at h
    · simp only [Bool.and_eq_true] at h
      unfold needE at n
      obtain ⟨r, hr, ok⟩ := n.1 X fx.adm
      exact pt_valD (pe_ixD hr ok (sE a h.1.2 n.2.1 fx B) (sE b h.2 n.2.2 fx B) (ix_ok h.1.1)) (true_ok rfl)
    · cases h
  | .ext sh sem es, N, sc, e, h, n, X, fx, B => by
    unfold chkE at h
    split at h
    · rename_i vs hs
      rw [Bool.and_eq_true] at h
      unfold needE at n
      exact pt_valD (n.1 N sc X fx e vs hs _ (sL es h.2 n.2 fx) B) (true_ok h.1)
    · cases h
theorem sL {G : GX} {lv : Nat} : ∀ (ir : Es) {N : List Str} {sc : Scope} {es : List Expr}, chkL N sc ir es = true → needEs G lv ir → ∀ {X : Cx}, Fits G lv N sc X → ∀ B : Bs, PEL X G.W B es (evL ir)
  | .nil, N, sc, es, h, n, X, fx, B => by
    unfold chkL at h
    split at h
    · exact .nil
    · cases h
  | .cons e r, N, sc, es, h, n, X, fx, B => by
    unfold chkL at h
    split at h
    · rw [Bool.and_eq_true] at h
      unfold needEs at n
      exact .cons (sE e h.1 n.1 fx B) (sL r h.2 n.2 fx B)
    · cases h
  | .star e r, N, sc, es, h, n, X, fx, B => by
    unfold chkL at h
    cases h
theorem sEs {G : GX} {lv : Nat} : ∀ (ir : Es) {N : List Str} {sc : Scope} {es : List Expr}, chkEs N sc ir es = true → needEs G lv ir → ∀ {X : Cx}, Fits G lv N sc X → ∀ B : Bs, PA X es (tevA G.W B (evEs ir))
  | .nil, N, sc, es, h, n, X, fx, B => by
    unfold chkEs at h
    split at h
    · exact pa_nilD
    · cases h
  | .cons e r, N, sc, es, h, n, X, fx, B => by
    unfold chkEs at h
    split at h
    · simp only [Bool.and_eq_true] at h
      unfold needEs at n
      exact pa_consD (sE e h.1.2 n.1 fx B) (sEs r h.2 n.2 fx B) (star_ok h.1.1)
    · cases h
  | .star e r, N, sc, es, h, n, X, fx, B => by
    unfold chkEs at h
    split at h
    · simp only [Bool.and_eq_true] at h
      unfold needEs at n
      exact pa_starD fx.k (sE e h.1 n.1 fx B) (sEs r h.2 n.2 fx B) rfl
    · cases h
theorem sO {G : GX} {lv : Nat} : ∀ (ir : Oe) {N : List Str} {sc : Scope} {x : Option Expr}, chkO N sc ir x = true → needO G lv ir → ∀ {X : Cx}, Fits G lv N sc X → ∀ B : Bs, PO X x (tov G.W B (evO ir))
  | .no, N, sc, x, h, n, X, fx, B => by
    unfold chkO at h
    split at h
    · exact po_noD
    · cases h
  | .yes e, N, sc, x, h, n, X, fx, B => by
    unfold chkO at h
    split at h
    · unfold needO at n
      exact po_someD (sE e h n fx B)
    · cases h
theorem sB {G : GX} {lv : Nat} : ∀ (c : Bool) (ir : Es) {N : List Str} {sc : Scope} {es : List Expr} {pos : Pos}, chkEs N sc ir es = true → needEs G lv ir → ∀ {X : Cx}, Fits G lv N sc X → ∀ B : Bs, PE X (.BoolOp (if c then BoolOp.And else BoolOp.Or) es pos) (tev G.W B (evB c ir))
  | c, .nil, N, sc, es, pos, h, n, X, fx, B => ⟨fun _ _ _ _ _ _ q => by obtain ⟨_, _, _, _, _, e1, _⟩ := q; unfold evB at e1; cases e1⟩
  | c, .star _ _, N, sc, es, pos, h, n, X, fx, B => ⟨fun _ _ _ _ _ _ q => by obtain ⟨_, _, _, _, _, e1, _⟩ := q; unfold evB at e1; cases e1⟩
  | c, .cons _ (.star _ _), N, sc, es, pos, h, n, X, fx, B => ⟨fun _ _ _ _ _ _ q => by obtain ⟨_, _, _, _, _, e1, _⟩ := q; unfold evB at e1; cases c <;> cases e1⟩
  | c, .cons e .nil, N, sc, es, pos, h, n, X, fx, B => by
    unfold chkEs at h
    split at h
    · simp only [Bool.and_eq_true] at h
      unfold needEs at n
      have h2 := h.2
      unfold chkEs at h2
      split at h2
      · have : evB c (.cons e .nil) = evE e := by cases c <;> rfl
        rw [this]
        exact pe_one (sE e h.1.2 n.1 fx B)
      · cases h2
    · cases h
  | true, .cons e (.cons e2 r), N, sc, es, pos, h, n, X, fx, B => by
    unfold chkEs at h
    split at h
    · simp only [Bool.and_eq_true] at h
      unfold needEs at n
      have h2 := h.2
      have ih := sB true (.cons e2 r) (pos := pos) h.2 n.2 fx B
      unfold chkEs at h2
      split at h2
      · exact pe_andD (sE e h.1.2 n.1 fx B) ih
      · cases h2
    · cases h
  | false, .cons e (.cons e2 r), N, sc, es, pos, h, n, X, fx, B => by
    unfold chkEs at h
    split at h
    · simp only [Bool.and_eq_true] at h
      unfold needEs at n
      have h2 := h.2
      have ih := sB false (.cons e2 r) (pos := pos) h.2 n.2 fx B
      unfold chkEs at h2
      split at h2
      · exact pe_orD (sE e h.1.2 n.1 fx B) ih
      · cases h2
    · cases h
theorem sBT {G : GX} {lv : Nat} : ∀ (c : Bool) (ir : Es) {N : List Str} {sc : Scope} {es : List Expr} {pos : Pos}, chkEs N sc ir es = true → needEs G lv ir → ∀ {X : Cx}, Fits G lv N sc X → ∀ B : Bs, PW X (.BoolOp (if c then BoolOp.And else BoolOp.Or) es pos) (ttv G.W B (evBT c ir))
  | c, .nil, N, sc, es, pos, h, n, X, fx, B => ⟨fun _ _ _ _ _ _ _ q => by obtain ⟨_, _, _, _, _, e1, _⟩ := q; unfold evBT at e1; cases e1⟩
  | c, .star _ _, N, sc, es, pos, h, n, X, fx, B => ⟨fun _ _ _ _ _ _ _ q => by obtain ⟨_, _, _, _, _, e1, _⟩ := q; unfold evBT at e1; cases e1⟩
  | c, .cons _ (.star _ _), N, sc, es, pos, h, n, X, fx, B => ⟨fun _ _ _ _ _ _ _ q => by obtain ⟨_, _, _, _, _, e1, _⟩ := q; unfold evBT at e1; cases c <;> cases e1⟩
  | true, .cons e .nil, N, sc, es, pos, h, n, X, fx, B => by
    unfold chkEs at h
    split at h
    · simp only [Bool.and_eq_true] at h
      unfold needEs at n
      have h2 := h.2
      unfold chkEs at h2
      split at h2
      · exact pw_and1 (sT e h.1.2 n.1 fx B)
      · cases h2
    · cases h
  | false, .cons e .nil, N, sc, es, pos, h, n, X, fx, B => by
    unfold chkEs at h
    split at h
    · simp only [Bool.and_eq_true] at h
      unfold needEs at n
      have h2 := h.2
      unfold chkEs at h2
      split at h2
      · exact pw_or1 (sT e h.1.2 n.1 fx B)
      · cases h2
    · cases h
  | true, .cons e (.cons e2 r), N, sc, es, pos, h, n, X, fx, B => by
    unfold chkEs at h
    split at h
    · simp only [Bool.and_eq_true] at h
      unfold needEs at n
      have h2 := h.2
      have ih := sBT true (.cons e2 r) (pos := pos) h.2 n.2 fx B
      unfold chkEs at h2
      split at h2
      · exact pw_andD (sT e h.1.2 n.1 fx B) ih
      · cases h2
    · cases h
  | false, .cons e (.cons e2 r), N, sc, es, pos, h, n, X, fx, B => by
    unfold chkEs at h
    split at h
    · simp only [Bool.and_eq_true] at h
      unfold needEs at n
      have h2 := h.2
      have ih := sBT false (.cons e2 r) (pos := pos) h.2 n.2 fx B
      unfold chkEs at h2
      split at h2
      · exact pw_orD (sT e h.1.2 n.1 fx B) ih
      · cases h2
    · cases h
theorem sF {G : GX} {lv : Nat} : ∀ (ir : FE) {N : List Str} {sc : Scope} {e : Expr}, chkF N sc ir e = true → needF G lv ir → ∀ {X : Cx}, Fits G lv N sc X → ∀ B : Bs, PE X e (tfr G.W B (evF ir))
  | .dsp es, N, sc, e, h, n, X, fx, B => by
    unfold chkF at h
    split at h
    · unfold needF at n
      exact pe_dspD (sEs es h n fx B)
    · cases h
  | .comp it ct t el own, N, sc, e, h, n, X, fx, B => by
    unfold chkF at h
    split at h
    · rename_i elt tg iter ifs scope pos
      simp only [Bool.and_eq_true] at h
      obtain ⟨⟨⟨⟨⟨⟨h1, h2⟩, h3⟩, h4⟩, h5⟩, h6⟩, h7⟩ := h
      unfold needF at n
      have bo : BlkOk X.N X.env.scope scope own := by rw [fx.n, fx.sc]; exact blkOk_by h1
      refine pe_compD fx.k fx.calm (by rw [fx.n]; exact fx.nd) (sI it h2 n.1 fx B) bo (fun s H C cl fp => ?_) (fun i hi => ?_) (fun s H C cl fp B => ?_) (fun s H C cl fp B => ?_) (fold_ok h3)
      · have f2 := fx.blk (scope := scope) s H C cl fp
        exact ct_ok f2.calm f2.n f2.nd f2.sc (fun x q => q) h4
      · rw [List.all_eq_true] at h5
        simpa using h5 i hi
      · exact sOT t h6 n.2.1 (fx.blk (scope := scope) s H C cl fp) B
      · exact sE el h7 n.2.2 (fx.blk (scope := scope) s H C cl fp) B
    · cases h
  | .bl x f es, N, sc, e, h, n, X, fx, B => by
    unfold chkF at h
    split at h
    · rename_i y p v vs pos
      simp only [Bool.and_eq_true, decide_eq_true_eq] at h
      obtain ⟨⟨⟨⟨rfl, h1⟩, h2⟩, h3⟩, h4⟩ := h
      unfold needF at n
      obtain ⟨m, ⟨nn, id, bb, hX⟩, ne⟩ := n
      obtain ⟨r, hc, ok⟩ := hX X fx.adm
      rw [List.all_cons, Bool.and_eq_true] at h3
      exact pe_blD hc ok (show X.env.scope.names.lookup _ = _ by rw [fx.sc]; exact glb_ok h1) (by rw [fx.mg]; exact m) bb (sEs es h4 ne fx B) nn (nodbg_ok h2).1 (star_ok h3.1) (any_ok h3.2)
    · cases h
  | .blt x f es, N, sc, e, h, n, X, fx, B => by
    unfold chkF at h
    split at h
    · rename_i y p v vs pos
      simp only [Bool.and_eq_true, decide_eq_true_eq] at h
      obtain ⟨⟨⟨⟨rfl, h1⟩, h2⟩, h3⟩, h4⟩ := h
      unfold needF at n
      obtain ⟨m, ⟨nn, id, bb, hX⟩, ne⟩ := n
      obtain ⟨r, hc, ok⟩ := hX X fx.adm
      rw [List.all_cons, Bool.and_eq_true] at h3
      exact pe_bltD hc ok (show X.env.scope.names.lookup _ = _ by rw [fx.sc]; exact glb_ok h1) (by rw [fx.mg]; exact m) bb (sEs es h4 ne fx B) nn (nodbg_ok h2).1 (star_ok h3.1) (any_ok h3.2)
    · cases h
  | .ext sh sem es, N, sc, e, h, n, X, fx, B => by
    unfold chkF at h
    split at h
    · rename_i vs hs
      unfold needF at n
      exact n.1 N sc X fx e vs hs _ (sL es h n.2 fx) B
    · cases h
theorem sOT {G : GX} {lv : Nat} : ∀ (ir : Oe) {N : List Str} {sc : Scope} {x : List Expr}, chkT N sc ir x = true → needO G lv ir → ∀ {X : Cx}, Fits G lv N sc X → ∀ B : Bs, PTs X x (ttv G.W B (evOT ir))
  | .no, N, sc, x, h, n, X, fx, B => by
    unfold chkT at h
    split at h
    · exact pts_nilD
    · cases h
  | .yes e, N, sc, x, h, n, X, fx, B => by
    unfold chkT at h
    split at h
    · unfold needO at n
      exact pts_oneD (sT e h n fx B)
    · cases h
theorem sI {G : GX} {lv : Nat} : ∀ (ir : IE) {N : List Str} {sc : Scope} {e tg : Expr}, chkI N sc ir e tg = true → needI G lv ir → ∀ {X : Cx}, Fits G lv N sc X → ∀ B : Bs, PI X tg e (tiv G.W B (evI ir))
  | .ex a, N, sc, e, tg, h, n, X, fx, B => by
    unfold chkI at h
    unfold needI at n
    exact pi_itD fx.k (sE a h n fx B)
  | .rg1 a, N, sc, e, tg, h, n, X, fx, B => by
    unfold chkI at h
    split at h
    · simp only [Bool.and_eq_true, decide_eq_true_eq] at h
      obtain ⟨⟨⟨rfl, h1⟩, h2⟩, h3⟩ := h
      unfold needI at n
      exact pi_rng1D (show X.env.scope.names.lookup _ = _ by rw [fx.sc]; exact glb_ok h1) (by rw [fx.mg]; exact n.1) (pa_consD (sE a h3 n.2 fx B) pa_nilD (star_ok h2)) (star_ok h2)
    · cases h
  | .rg2 a b, N, sc, e, tg, h, n, X, fx, B => by
    unfold chkI at h
    split at h
    · simp only [Bool.and_eq_true, decide_eq_true_eq] at h
      obtain ⟨⟨⟨⟨⟨rfl, h1⟩, h2⟩, h3⟩, h4⟩, h5⟩ := h
      unfold needI at n
      exact pi_rng2D (show X.env.scope.names.lookup _ = _ by rw [fx.sc]; exact glb_ok h1) (by rw [fx.mg]; exact n.1) (pa_consD (sE a h4 n.2.1 fx B) (pa_consD (sE b h5 n.2.2 fx B) pa_nilD (star_ok h3)) (star_ok h2)) (by rw [star_ok h2, star_ok h3]; rfl) (star_ok h3)
    · cases h
  | .zip a b, N, sc, e, tg, h, n, X, fx, B => by
    unfold chkI at h
    split at h
    · simp only [Bool.and_eq_true, decide_eq_true_eq] at h
      obtain ⟨⟨⟨⟨⟨rfl, h1⟩, h2⟩, h3⟩, h4⟩, h5⟩ := h
      unfold needI at n
      exact pi_zipD fx.k (show X.env.scope.names.lookup _ = _ by rw [fx.sc]; exact glb_ok h1) (by rw [fx.mg]; exact n.1) (pa_consD (sE a h4 n.2.1 fx B) (pa_consD (sE b h5 n.2.2 fx B) pa_nilD (star_ok h3)) (star_ok h2)) (star_ok h2) (any_ok (by simp [h3]))
    · cases h
  | .ext sh sem es, N, sc, e, tg, h, n, X, fx, B => by
    unfold chkI at h
    split at h
    · rename_i vs hs
      unfold needI at n
      exact n.1 N sc X fx e tg vs hs _ (sL es h n.2 fx) B
    · cases h
end
end DE
set_option Elab.async false
set_option linter.all false
set_option maxRecDepth 100000
set_option maxHeartbeats 8000000
/-! DE10: items stored, two at once, comprehensions given to a name; a def by its body. -/
namespace DE
open PySem PySem.Spec L2
section
variable {X : Cx} {W : Wd} {B : Bs} {a b c e tg : Expr} {fa fb fc : Ev} {pos p : Pos}
/-! ### a cell is changed -/
theorem ZR.cell_set {ι : List Addr} {H : Hp} {σ : L2.St} {z : Z} {n : Nat} {m m' : MO} {q : Addr} {o o' : HO} (zr : ZR W B ι H σ z) (hn : z.2[n]? = some m) (hq : ι[n]? = some q) (ho : H q = some o) (hi : ∀ C dx fs, o = .ins C dx fs → q ∈ ι) (hf : fzn o = false) (hm : Kp ι H ι (upd H q o') → MRep W ι (upd H q o') q m') :
    Kp ι H ι (upd H q o') ∧ ZR W B ι (upd H q o') σ (z.1, z.2.set n m') := by
  have hqm : q ∈ ι := List.mem_of_getElem? hq
  have k2 : Kp ι H ι (upd H q o') := Kp.at_ ho hf hi
  have hnl : n < z.2.length := (List.getElem?_eq_some_iff.mp hn).1
  refine ⟨k2, ⟨by simp [zr.st.len], zr.st.nd, fun j mo a e1 e2 => ?_⟩, zr.pre, zr.new, fun b u x nb => ?_, zr.newP, fun b u x => ?_, zr.len, fun i dv x => ?_, zr.dis⟩
  · by_cases hj : j = n
    · subst hj
      simp only [List.getElem?_set_self hnl] at e1
      cases e1
      rw [hq] at e2; cases e2
      exact hm k2
    · simp only [List.getElem?_set_ne (Ne.symm hj)] at e1
      refine (zr.st.at_ j mo a e1 e2).kp k2 fun u x => ?_
      rw [upd_ne]
      · exact x
      · rintro rfl
        obtain ⟨h1, e1'⟩ := List.getElem?_eq_some_iff.mp e2
        obtain ⟨h2, e2'⟩ := List.getElem?_eq_some_iff.mp hq
        exact hj ((List.getElem_inj zr.st.nd).mp (e1'.trans e2'.symm))
  · rw [upd_ne]
    · exact zr.keep b u x nb
    · rintro rfl
      rw [zr.new b hqm nb] at x; cases x
  · rw [upd_ne]
    · exact zr.keepP b u x
    · rintro rfl
      rw [zr.newP b hqm] at x; cases x
  · obtain ⟨v, hv, r⟩ := zr.slot i dv x
    refine ⟨v, hv, ?_⟩
    cases dv with
    | imm d => exact ⟨r.1, r.2.kp k2 r.1⟩
    | own ds => obtain ⟨l, a, xs, e, y, b, nn, rl⟩ := r; exact ⟨l, a, xs, e, by rw [upd_ne (fun h : a = q => nn (by rw [h]; exact hqm))]; exact y, b, nn, rl.kp k2⟩
    | oT ds => obtain ⟨l, a, xs, e, y, b, nn, rl⟩ := r; exact ⟨l, a, xs, e, by rw [upd_ne (fun h : a = q => nn (by rw [h]; exact hqm))]; exact y, b, nn, rl.kp k2⟩
    | oK ds => obtain ⟨l, a, xs, e, y, b, nn, rl⟩ := r; exact ⟨l, a, xs, e, by rw [upd_ne (fun h : a = q => nn (by rw [h]; exact hqm))]; exact y, b, nn, rl.kp k2⟩
    | brw ds => obtain ⟨l, a, xs, e, y, b, m, nn, rl⟩ := r; exact ⟨l, a, xs, e, by rw [upd_ne (fun h : a = q => nn (by rw [h]; exact hqm))]; exact y, b, m, nn, rl.kp k2⟩
/-! ### o[i] = v -/
def setD (x y d : D) (z : Z) : Option Z := match x, y with
  | .han n, .int i => (match z.2[n]? with
    | some (.lst ds) => (ixOf ds.length i).map fun k => (z.1, z.2.set n (.lst (ds.set k d)))
    | _ => none)
  | .bor j, .int i => (match z.1[j]? with
    | some (some (.own ds)) => (ixOf ds.length i).map fun k => (z.1.set j (some (.own (ds.set k d))), z.2)
    | _ => none)
  | _, _ => none
def gIdx (fa fb : Ev) : EvG := fun d z => (fa z).bind fun x => (fb x.2).bind fun y => setD x.1 y.1 d y.2
theorem pg_subD {o i : Expr} (ho : PE X o (tev W B fa)) (hi : PE X i (tev W B fb)) (ha : ∀ v, assign (.Subscript o i pos) X.env v = (do
      let ov ← holding [v] (eval o X.env)
      let iv ← holding [v, ov] (eval i X.env)
      standAt pos
      holding [v, ov, iv] (setItem ov iv v)
      release [v, ov, iv] [])) : PG X (.Subscript o i pos) (tgv W B (gIdx fa fb)) := by
  refine pg_mono (pg_sub ho hi set_list ha) fun v σ H Q q => ?_
  obtain ⟨ι, z, d, z', zr, p, r, e1, k⟩ := q
  unfold gIdx at e1
  cases ea : fa z with
  | none => rw [ea] at e1; cases e1
  | some x =>
    rw [ea, Option.bind_some] at e1
    cases eb : fb x.2 with
    | none => rw [eb] at e1; cases e1
    | some y =>
      rw [eb, Option.bind_some] at e1
      refine ⟨ι, z, x.1, x.2, zr, ea, fun vo ι1 H1 k1 r1 zr1 => ⟨ι1, x.2, y.1, y.2, zr1, eb, fun vi ι2 H2 k2 r2 zr2 => ?_⟩⟩
      have rv : Rep W ι2 H2 d v := (r.kp k1 p).kp k2 p
      have r1' := r1.kp k2
      unfold setD at e1
      split at e1
      · rename_i n i hx hy
        rw [hx] at r1'
        rw [hy] at r2
        split at e1
        · rename_i ds hn
          cases e3 : ixOf ds.length i with
          | none => rw [e3] at e1; cases e1
          | some j =>
            rw [e3] at e1; cases e1
            obtain ⟨_, hr⟩ := r1'
            unfold Rep at hr
            obtain ⟨q, hq, rfl⟩ := hr
            obtain ⟨l, xs, hx2, rl⟩ := zr2.st.at_ n _ q hn hq
            refine ⟨q, xs, i, j, rfl, x_int r2, hx2, by rw [← rl.length]; exact e3, ?_⟩
            obtain ⟨k3, zr3⟩ := zr2.cell_set hn hq hx2 (fun _ _ _ h => by cases h) rfl (o' := .lst (xs.set j v)) (m' := .lst (ds.set j d)) fun k3 => ⟨by rw [List.length_set]; exact l, _, upd_same, (rl.set j rv p).kp k3⟩
            exact k σ ι2 _ ((k1.trans k2).trans k3) zr3
        · cases e1
      · rename_i n i hx hy
        rw [hx] at r1'
        rw [hy] at r2
        split at e1
        · rename_i ds hn
          cases e3 : ixOf ds.length i with
          | none => rw [e3] at e1; cases e1
          | some j =>
            rw [e3] at e1; cases e1
            have hs : σ[n]? = some (some vo) := r1'
            obtain ⟨w, hw, l, q, xs, ev, hq, hb, hnn, rl⟩ := zr2.slot n _ hn
            rw [hs] at hw; cases hw
            subst ev
            refine ⟨q, xs, i, j, rfl, x_int r2, hq, by rw [← rl.length]; exact e3, ?_⟩
            obtain ⟨k3, zr3⟩ := zr2.own_set hn hs hq (ds' := ds.set j d) (by rw [List.length_set]; exact l) (rl.set j rv p)
            exact k σ ι2 _ ((k1.trans k2).trans k3) zr3
        · cases e1
      · cases e1
/-! ### a comprehension given to a name, where the text's machine swaps the two -/
theorem ps_lcOwnD {i : Nat} {y : Str} {py : Pos} {elt iter : Expr} {ifs : List Expr} {scope : Scope} {own : List (Str × Nat)} {fi : EvA} {ct : CT} {t : EvT} {f : Ev} {spos : Pos} (hK : X.K = W.K) (hc : X.calm = true) (hN : X.N.Nodup) (hy : X.N[i]? = some y) (hyl : X.env.scope.names.lookup y = some .local)
    (hsw : swapsWith (.ListComp elt [⟨tg, iter, ifs, 0⟩] scope pos) (some (.Name y py)) spos.line X.env = pure true) (hi : PI X tg iter (tiv W B fi)) (ok : BlkOk X.N X.env.scope scope own)
    (hg : ∀ (s : Shared) (H : Hp) (C : Addr) (cl : List (Str × Addr)) (fp : List Addr), PG (X.blk s H scope (compEnvC scope cl C X.env) fp) tg (ctg X.K ct)) (hct : ∀ i ∈ ct.slots, i ∈ own.map (·.2))
    (ht : ∀ (s : Shared) (H : Hp) (C : Addr) (cl : List (Str × Addr)) (fp : List Addr) (B : Bs), PTs (X.blk s H scope (compEnvC scope cl C X.env) fp) ifs (ttv W B t))
    (he : ∀ (s : Shared) (H : Hp) (C : Addr) (cl : List (Str × Addr)) (fp : List Addr) (B : Bs), PE (X.blk s H scope (compEnvC scope cl C X.env) fp) elt (tev W B f)) (hs : ∀ x, foldedSetIterable iter X.env x = pure x) :
    PS X (.Assign [.Name y py] (.ListComp elt [⟨tg, iter, ifs, 0⟩] scope pos) spos) (tss W B (sOwn i (fComp fi ct t f (own.map (·.2))))) := by
  refine ps_mono (ps_setLc hc hN hy hyl hsw hi ok hg (fun s H C cl fp => pts_anyB (ht s H C cl fp)) (fun s H C cl fp => pe_anyB (he s H C cl fp)) hs) fun D σ H q => ?_
  refine tlc_of hK hct σ H _ ?_
  obtain ⟨ι, z, fl, z', zr, e1, k⟩ := q
  unfold sOwn at e1
  cases ef : fComp fi ct t f (own.map (·.2)) z with
  | none => rw [ef] at e1; cases e1
  | some x =>
    rw [ef] at e1; cases e1
    exact ⟨ι, z, x.1, x.2, zr, ef, fun p xs ι1 H1 k1 zr1 r l _ hp fr => k _ ι1 H1 k1 (zr1.setOwn fr rfl ⟨l, p, xs, rfl, hp, fr.b, fr.i, r⟩)⟩
/-- the name's own list is kept from the start -/
def sSetF (i : Nat) (f : EvA) : EvS := fun z => (f z).map fun x => (.nx, (x.2.1.set i (some (.imm (.lst x.1))), x.2.2))
theorem ps_frzD {i : Nat} {st : Stmt} {f : EvA} (h : PS X st (tss W B (sOwn i f))) : PS X st (tss W B (sSetF i f)) := by
  refine ⟨fun pins s σ H D I q => ?_⟩
  obtain ⟨ι, z, fl, z', zr, e1, k⟩ := q
  unfold sSetF at e1
  cases ef : f z with
  | none => rw [ef] at e1; cases e1
  | some x =>
    rw [ef] at e1; cases e1
    have e2 : sOwn i f z = some (.nx, (x.2.1.set i (some (.own x.1)), x.2.2)) := by unfold sOwn; rw [ef]; rfl
    refine thn (h.run pins s σ H ⟨fun σ' H' => ∃ ι', Kp ι H ι' H' ∧ ZR W B ι' H' σ' (x.2.1.set i (some (.own x.1)), x.2.2), fun _ _ => False, fun _ _ => False, fun _ _ => False⟩ I ⟨ι, z, .nx, _, zr, e2, fun σ' ι' H' k1 zr1 => ⟨ι', k1, zr1⟩⟩) fun fl s' hq => ?_
    cases fl with
    | next =>
      obtain ⟨σ', H', I', ι', k1, zr1⟩ := hq
      by_cases hil : i < x.2.1.length
      · have hi : (x.2.1.set i (some (.own x.1)))[i]? = some (some (.own x.1)) := List.getElem?_set_self hil
        obtain ⟨v, hs, l, p, xs, ev, hp, hb, hn, rl⟩ := zr1.slot i _ hi
        obtain ⟨o, I2⟩ := I'.lock hp trivial
        have k2 : Kp ι' H' ι' (upd H' p (.frz o (.lst xs))) := Kp.at_ hp rfl (fun _ _ _ q => by cases q)
        have rp : Rep W ι' (upd H' p (.frz o (.lst xs))) (.lst x.1) v := by
          unfold Rep
          exact ⟨l, p, xs, ev, .inl ⟨o, upd_same⟩, rl.kp k2⟩
        refine ⟨σ', _, I2, k σ' ι' _ (k1.trans k2) ?_⟩
        have es : x.2.1.set i (some (.imm (.lst x.1))) = (x.2.1.set i (some (.own x.1))).set i (some (.imm (.lst x.1))) := by rw [List.set_set]
        show ZR W B ι' _ σ' (x.2.1.set i (some (.imm (.lst x.1))), x.2.2)
        rw [es]
        generalize x.2.1.set i (some (.own x.1)) = ρ at zr1 hi
        have hil2 : i < ρ.length := (List.getElem?_eq_some_iff.mp hi).1
        refine ⟨zr1.st.same k2 fun a ha u e => by rw [upd_ne (fun q : a = p => hn (q ▸ ha))]; exact e, zr1.pre, zr1.new, fun b u x n => by rw [upd_ne (fun q => by rw [q, hb.1] at x; cases x)]; exact zr1.keep b u x n, zr1.newP, fun b u x => by rw [upd_ne (fun q => by rw [q, hb.2] at x; cases x)]; exact zr1.keepP b u x, by rw [← zr1.len]; exact List.length_set .., fun j dv hj => ?_, fun j1 j2 dv dv' a' h1 o1 h2 o2 s1 s2 => ?_⟩
        · by_cases hji : j = i
          · subst hji
            simp only [List.getElem?_set_self hil2] at hj
            cases hj
            exact ⟨v, hs, rfl, rp⟩
          · simp only [List.getElem?_set_ne (Ne.symm hji)] at hj
            obtain ⟨u', hu', r'⟩ := zr1.slot j dv hj
            refine ⟨u', hu', r'.off k2 hb fun ho e => hji ?_⟩
            exact zr1.dis j i dv _ p hj ho hi rfl (by rw [hu', e]) (by rw [hs, ev])
        · have f : ∀ {j : Nat} {dv : DV}, (ρ.set i (some (.imm (.lst x.1))))[j]? = some (some dv) → dv.isOwn = true → ρ[j]? = some (some dv) := fun {j dv} hj ho => by
            by_cases hji : j = i
            · subst hji
              rw [List.getElem?_set_self hil2] at hj
              cases hj; cases ho
            · rw [List.getElem?_set_ne (Ne.symm hji)] at hj
              exact hj
          exact zr1.dis j1 j2 dv dv' a' (f h1 o1) o1 (f h2 o2) o2 s1 s2
      · have es : ∀ y, x.2.1.set i y = x.2.1 := fun y => List.set_eq_of_length_le (by omega)
        refine ⟨σ', H', I', k σ' ι' H' k1 ?_⟩
        show ZR W B ι' H' σ' (x.2.1.set i _, x.2.2)
        rw [es] at zr1 ⊢
        exact zr1
    | ret v => obtain ⟨_, _, _, _, _, q⟩ := hq; exact q.elim
    | brk => obtain ⟨_, _, _, q⟩ := hq; exact q.elim
    | cont => obtain ⟨_, _, _, q⟩ := hq; exact q.elim
/-! ### a, b = x, y : each a lasting value, or a fresh list -/
inductive PEl where
  | v (e : E) | o (f : FE)
def evP : PEl → Z → Option (DV × Z)
  | .v e, z => (evE e z).bind fun x => if x.1.plain then some (.imm x.1, x.2) else none
  | .o f, z => (evF f z).map fun x => (.own x.1, x.2)
def tpl (W : Wd) (B : Bs) (f : Z → Option (DV × Z)) : TE := fun σ H Q => ∃ ι z dv z', ZR W B ι H σ z ∧ f z = some (dv, z') ∧ ∀ v ι' H', Kp ι H ι' H' → ZR W B ι' H' σ z' → DRep W B ι' H' v dv → (dv.isOwn = true → ∃ ds p, dv = .own ds ∧ v = .ref p ∧ Fr B ι' σ z' p) → Q v H'
def tplX (W : Wd) (f : Z → Option (DV × Z)) : TE := fun σ H Q => ∃ B, tpl W B f σ H Q
theorem pe_plv {ir : E} (h : PE X e (tev W B (evE ir))) : PE X e (tpl W B (evP (.v ir))) := by
  refine pe_mono h fun σ H Q q => ?_
  obtain ⟨ι, z, dv, z', zr, e1, k⟩ := q
  unfold evP at e1
  simp only at e1
  cases ea : evE ir z with
  | none => rw [ea] at e1; cases e1
  | some x =>
    rw [ea, Option.bind_some] at e1
    split at e1
    · rename_i hp
      cases e1
      exact ⟨ι, z, x.1, x.2, zr, ea, fun v ι' H' k1 r zr1 => k v ι' H' k1 zr1 ⟨hp, r.rep hp⟩ fun h => by cases h⟩
    · cases e1
theorem pe_plo {ir : FE} (h : PE X e (tfr W B (evF ir))) : PE X e (tpl W B (evP (.o ir))) := by
  refine pe_mono h fun σ H Q q => ?_
  obtain ⟨ι, z, dv, z', zr, e1, k⟩ := q
  unfold evP at e1
  simp only at e1
  cases ea : evF ir z with
  | none => rw [ea] at e1; cases e1
  | some x =>
    rw [ea] at e1
    cases e1
    exact ⟨ι, z, x.1, x.2, zr, ea, fun p xs ι' H' k1 zr1 r l _ hp fr => k _ ι' H' k1 zr1 ⟨l, p, xs, rfl, hp, fr.b, fr.i, r⟩ fun _ => ⟨_, p, rfl, rfl, fr⟩⟩
def sPar2 (i j : Nat) (f g : Z → Option (DV × Z)) : EvS := fun z => (f z).bind fun x => (g x.2).map fun y => (.nx, ((y.2.1.set i (some x.1)).set j (some y.1), y.2.2))
theorem ZR.setDV {ι : List Addr} {H : Hp} {σ : L2.St} {z : Z} {i : Nat} {dv : DV} {v : V} (zr : ZR W B ι H σ z) (r : DRep W B ι H v dv) (ho : dv.isOwn = true → ∃ ds p, dv = .own ds ∧ v = .ref p ∧ Fr B ι σ z p) (hb : ∀ ds, dv ≠ .brw ds) : ZR W B ι H (σ.set i (some v)) (z.1.set i (some dv), z.2) := by
  cases dv with
  | imm d => exact zr.set r.1 r.2
  | own ds => obtain ⟨_, p, _, rfl, fr⟩ := ho rfl; exact zr.setOwn fr rfl r
  | oT ds => obtain ⟨_, p, h, _⟩ := ho rfl; cases h
  | oK ds => obtain ⟨_, p, h, _⟩ := ho rfl; cases h
  | brw ds => exact absurd rfl (hb ds)
theorem evP_nb {el : PEl} {z z' : Z} {dv : DV} (h : evP el z = some (dv, z')) : ∀ ds, dv ≠ .brw ds := by
  intro ds e
  subst e
  cases el with
  | v e =>
    unfold evP at h
    simp only at h
    cases ea : evE e z with
    | none => rw [ea] at h; cases h
    | some x =>
      rw [ea, Option.bind_some] at h
      split at h <;> cases h
  | o f =>
    unfold evP at h
    simp only at h
    cases ea : evF f z with
    | none => rw [ea] at h; cases h
    | some x => rw [ea] at h; cases h
theorem tpl_mono {f : Z → Option (DV × Z)} {σ : L2.St} {H : Hp} {R R' : VK} (h : tpl W B f σ H R) (m : ∀ v H1, R v H1 → R' v H1) : tpl W B f σ H R' := let ⟨ι, z, dv, z', zr, e, k⟩ := h; ⟨ι, z, dv, z', zr, e, fun v ι' H' k1 zr1 d f => m v H' (k v ι' H' k1 zr1 d f)⟩
theorem tplX_mono {f : Z → Option (DV × Z)} {σ : L2.St} {H : Hp} {R R' : VK} (h : tplX W f σ H R) (m : ∀ v H1, R v H1 → R' v H1) : tplX W f σ H R' := let ⟨B, q⟩ := h; ⟨B, tpl_mono q m⟩
theorem tcons_mono {f g : Z → Option (DV × Z)} {σ : L2.St} {H : Hp} {Q Q' : List V → Hp → Prop} (h : tCons (tpl W B f) (tCons (tplX W g) tNil) σ H Q) (m : ∀ vs H2, Q vs H2 → Q' vs H2) : tCons (tpl W B f) (tCons (tplX W g) tNil) σ H Q' := tpl_mono h fun v H1 r => tplX_mono r fun v2 H2 q => m [v, v2] H2 q
/-- what both roads of a, b = x, y come to -/
theorem par_core {i j : Nat} {ea eb : PEl} {D : Ends} {σ : L2.St} {H : Hp} (q : tss W B (sPar2 i j (evP ea) (evP eb)) D σ H) : tCons (tpl W B (evP ea)) (tCons (tplX W (evP eb)) tNil) σ H fun vs H2 => ∃ v1 v2, vs = [v1, v2] ∧ ∃ ι2 zf, ZR W B ι2 H2 ((σ.set i (some v1)).set j (some v2)) zf ∧ ∀ ι3 H3, Kp ι2 H2 ι3 H3 → ZR W B ι3 H3 ((σ.set i (some v1)).set j (some v2)) zf → D.nx ((σ.set i (some v1)).set j (some v2)) H3 := by
  obtain ⟨ι, z, fl, z', zr, e1, k⟩ := q
  unfold sPar2 at e1
  cases e2 : evP ea z with
  | none => rw [e2] at e1; cases e1
  | some u =>
    rw [e2, Option.bind_some] at e1
    cases e3 : evP eb u.2 with
    | none => rw [e3] at e1; cases e1
    | some w =>
      rw [e3] at e1; cases e1
      have nb1 := evP_nb e2
      have nb2 := evP_nb e3
      refine ⟨ι, z, u.1, u.2, zr, e2, fun v1 ι1 H1 k1 zr1 d1 f1 => ?_⟩
      cases hu : u.1 with
      | imm d =>
        rw [hu] at d1
        refine ⟨B, ι1, u.2, w.1, w.2, zr1, e3, fun v2 ι2 H2 k2 zr2 d2 f2 => ⟨v1, v2, rfl, ?_⟩⟩
        have d1' : DRep W B ι2 H2 v1 (.imm d) := ⟨d1.1, d1.2.kp k2 d1.1⟩
        refine ⟨ι2, _, ?_, fun ι3 H3 k3 zr3 => k _ ι3 H3 ((k1.trans k2).trans k3) zr3⟩
        rw [hu]
        have zr3 := zr2.set (i := i) d1'.1 d1'.2
        refine zr3.setDV d2 (fun ho => ?_) nb2
        obtain ⟨ds, p, h1, h2, fr⟩ := f2 ho
        refine ⟨ds, p, h1, h2, fr.b, fr.i, fun j' dv' hj' ho' hs' => ?_⟩
        by_cases hji : j' = i
        · subst hji
          have hl : j' < w.2.1.length := by
            have := (List.getElem?_eq_some_iff.mp hj').1
            simpa using this
          simp only [List.getElem?_set_self hl] at hj'
          cases hj'; cases ho'
        · simp only [List.getElem?_set_ne (Ne.symm hji)] at hj' hs'
          exact fr.o j' dv' hj' ho' hs'
      | own ds =>
        rw [hu] at d1 f1
        obtain ⟨_, p1, h1, rfl, fr1⟩ := f1 rfl
        cases h1
        obtain ⟨l1, a1, xs1, ev1, hp1, hb1, hn1, rl1⟩ := d1
        cases ev1
        refine ⟨⟨B.ι, B.H, upd B.P p1 (.lst xs1)⟩, ι1, u.2, w.1, w.2, zr1.guard fr1 hp1, e3, fun v2 ι2 H2 k2 zr2 d2 f2 => ⟨.ref p1, v2, rfl, ?_⟩⟩
        obtain ⟨zu, fu, hpu⟩ := ZR.unguard hb1 zr2
        refine ⟨ι2, _, ?_, fun ι3 H3 k3 zr3 => k _ ι3 H3 ((k1.trans k2).trans k3) zr3⟩
        rw [hu]
        have zr3 := zu.setOwn (i := i) fu rfl (dv := .own ds) ⟨l1, p1, xs1, rfl, hpu, hb1, fu.i, rl1.kp k2⟩
        have f2' : w.1.isOwn = true → ∃ ds p, w.1 = .own ds ∧ v2 = .ref p ∧ Fr B ι2 σ w.2 p ∧ p ≠ p1 := fun ho => by
          obtain ⟨ds, p, h1, h2, fr⟩ := f2 ho
          have hpn : upd B.P p1 (.lst xs1) p = none := fr.b.2
          have hne : p ≠ p1 := fun q => by rw [q, upd_same] at hpn; cases hpn
          rw [upd_ne hne] at hpn
          exact ⟨ds, p, h1, h2, ⟨⟨fr.b.1, hpn⟩, fr.i, fr.o⟩, hne⟩
        have d2' : DRep W B ι2 H2 v2 w.1 := by
          cases hw1 : w.1 with
          | imm d => rw [hw1] at d2; exact d2
          | own ds2 =>
            rw [hw1] at d2 f2'
            obtain ⟨l, a, xs, e, y, b, n, rl⟩ := d2
            obtain ⟨_, p, _, h2, fr, _⟩ := f2' rfl
            rw [e] at h2; cases h2
            exact ⟨l, a, xs, e, y, fr.b, n, rl⟩
          | oT ds2 => obtain ⟨_, _, h, _⟩ := f2 (by rw [hw1]; rfl); rw [hw1] at h; cases h
          | oK ds2 => obtain ⟨_, _, h, _⟩ := f2 (by rw [hw1]; rfl); rw [hw1] at h; cases h
          | brw ds2 => exact absurd hw1 (nb2 ds2)
        refine zr3.setDV d2' (fun ho => ?_) nb2
        obtain ⟨ds2, p, h1, h2, fr, hne⟩ := f2' ho
        refine ⟨ds2, p, h1, h2, fr.b, fr.i, fun j' dv' hj' ho' hs' => ?_⟩
        by_cases hji : j' = i
        · subst hji
          have hl : j' < w.2.1.length := by
            have := (List.getElem?_eq_some_iff.mp hj').1
            simpa using this
          rw [List.getElem?_set_self (by rw [← zu.len]; exact hl)] at hs'
          cases hs'
          exact hne rfl
        · simp only [List.getElem?_set_ne (Ne.symm hji)] at hj' hs'
          exact fr.o j' dv' hj' ho' hs'
      | oT ds => obtain ⟨_, _, h, _⟩ := f1 (by rw [hu]; rfl); rw [hu] at h; cases h
      | oK ds => obtain ⟨_, _, h, _⟩ := f1 (by rw [hu]; rfl); rw [hu] at h; cases h
      | brw ds => exact absurd hu (nb1 ds)
theorem ps_par2D {i j : Nat} {x y : Str} {ea eb : PEl} {px py pt : Pos} {kt k2 pt2} (hc : X.calm = true) (hN : X.N.Nodup) (hi : X.N[i]? = some x) (hj : X.N[j]? = some y) (hij : i ≠ j)
    (hx : X.env.scope.names.lookup x = some .local) (hy : X.env.scope.names.lookup y = some .local) (ha : ∀ B, PE X a (tpl W B (evP ea))) (hb : ∀ B, PE X b (tpl W B (evP eb)))
    (hsa : starEach [a, b] X.env = (false, eval a X.env) :: starEach [b] X.env) (hsb : starEach [b] X.env = (false, eval b X.env) :: starEach [] X.env)
    (hw : swappedStores [.Tuple [.Name x px, .Name y py] kt pt] (.Tuple [a, b] k2 pt2) X.env = pure (some [x, y]))
    (hs : swapsWithSole [.Tuple [.Name x px, .Name y py] kt pt] (.Tuple [a, b] k2 pt2) pos.line X.env = pure false) :
    PS X (.Assign [.Tuple [.Name x px, .Name y py] kt pt] (.Tuple [a, b] k2 pt2) pos) (tss W B (sPar2 i j (evP ea) (evP eb))) := by
  have hbX : PE X b (tplX W (evP eb)) := ⟨fun pins s σ H Q I ⟨B, q⟩ => (hb B).run pins s σ H Q I q⟩
  refine ps_mono (ps_par hc hN hi hj hij hx hy (pa_cons (ha B) (pa_cons hbX pa_nil hsb) hsa) hw hs) fun D σ H q => ?_
  exact tcons_mono (par_core q) fun vs H2 ⟨v1, v2, e, ι2, zf, zr, k⟩ => ⟨v1, v2, e, k ι2 H2 .refl zr⟩
/-- .. through a tuple -/
theorem ps_par2T {i j : Nat} {x y : Str} {ea eb : PEl} {px py pt : Pos} {kt k2 pt2} (hc : X.calm = true) (hN : X.N.Nodup) (hi : X.N[i]? = some x) (hj : X.N[j]? = some y)
    (hx : Loc X.env.scope x) (hy : Loc X.env.scope y) (hfn : ∀ x, X.fn x = true) (ha : ∀ B, PE X a (tpl W B (evP ea))) (hb : ∀ B, PE X b (tpl W B (evP eb)))
    (hsa : starEach [a, b] X.env = (false, eval a X.env) :: starEach [b] X.env) (hsb : starEach [b] X.env = (false, eval b X.env) :: starEach [] X.env)
    (hw : swappedStores [.Tuple [.Name x px, .Name y py] kt pt] (.Tuple [a, b] k2 pt2) X.env = pure none)
    (hs : swapsWithSole [.Tuple [.Name x px, .Name y py] kt pt] (.Tuple [a, b] k2 pt2) pos.line X.env = pure false) :
    PS X (.Assign [.Tuple [.Name x px, .Name y py] kt pt] (.Tuple [a, b] k2 pt2) pos) (tss W B (sPar2 i j (evP ea) (evP eb))) := by
  have hbX : PE X b (tplX W (evP eb)) := ⟨fun pins s σ H Q I ⟨B, q⟩ => (hb B).run pins s σ H Q I q⟩
  refine ps_mono (ps_asg (pe_tup (pa_cons (ha B) (pa_cons hbX pa_nil hsb) hsa)) (pg_tup hc (pgs_cons (pg_name hN hi hx (.inl (hfn x))) (pgs_cons (pg_name hN hj hy (.inl (hfn y))) pgs_nil))) hs hw) fun D σ H q => ?_
  show tCons (tpl W B (evP ea)) (tCons (tplX W (evP eb)) tNil) σ H (fun xs H1 => xs.length ≤ sizeLine ∧ ∀ p, H1 p = none → gTup X.K 2 (gCons (gName i) (gCons (gName j) gNil)) (.ref p) σ (upd H1 p (.tup xs)) D.nx)
  refine tcons_mono (par_core q) fun vs H2 ⟨v1, v2, e, ι2, zf, zr, k⟩ => ?_
  subst e
  exact ⟨by show 2 ≤ sizeLine; decide, fun T hT => ⟨T, [v1, v2], rfl, SqT.of upd_same, rfl, v1, [v2], rfl, v2, [], rfl, rfl, k ι2 _ (Kp.alloc hT) (zr.alloc hT)⟩⟩
end
end DE
set_option Elab.async false
set_option linter.all false
set_option maxRecDepth 100000
set_option maxHeartbeats 8000000
/-! DE11: statements as trees; a def by its tree. -/
namespace DE
open PySem PySem.Spec L2
mutual
/-- targets -/
inductive Gt where
  | nm (i : Nat)
  | ix (a b : E)
  | tp (gs : Gts)
  | ext (sh : Scope → Expr → Option (List Expr)) (sem : List Ev → EvG) (es : Es)
inductive Gts where
  | nil
  | cons (g : Gt) (gs : Gts)
end
def Gts.len : Gts → Nat
  | .nil => 0
  | .cons _ gs => gs.len + 1
mutual
inductive S where
  | set (i : Nat) (e : E)
  | setC (i : Nat) (f : FE)
  | own (i : Nat) (f : FE)
  | ownC (i : Nat) (f : FE)
  | asg (g : Gt) (e : E)
  | par (i j : Nat) (a b : PEl)
  | exp (e : E)
  | ret (e : E)
  | ife (t : E) (a b : Ss)
  | fors (it : IE) (g : Gt) (b : Ss)
  | whil (n : Nat) (t : E) (b : Ss)
  | pass
  | brk
  | cont
  | never
  | ext (sh : List Str → Scope → Stmt → Option (List Expr)) (sem : List Ev → EvS) (es : Es)
inductive Ss where
  | nil
  | cons (s : S) (ss : Ss)
  | never
end
mutual
def evG : Gt → EvG
  | .nm i => gSet i
  | .ix a b => gIdx (evE a) (evE b)
  | .tp gs => gTupD gs.len (evGs gs)
  | .ext _ sem es => sem (evL es)
def evGs : Gts → EvGs
  | .nil => gsNil
  | .cons g gs => gsCons (evG g) (evGs gs)
end
mutual
def evS : S → EvS
  | .set i e => sAsg (evE e) (gSet i)
  | .setC i f => sSetF i (evF f)
  | .own i f => sOwn i (evF f)
  | .ownC i f => sOwn i (evF f)
  | .asg g e => sAsg (evE e) (evG g)
  | .par i j a b => sPar2 i j (evP a) (evP b)
  | .exp e => sExpr (evE e)
  | .ret e => sRet (evE e)
  | .ife t a b => sIf (evT t) (evSs a) (evSs b)
  | .fors it g b => sFor (evI it) (evG g) (evSs b)
  | .whil n t b => whileL (evT t) (evSs b) n
  | .pass => sNx
  | .brk => fun z => some (.bk, z)
  | .cont => fun z => some (.ct, z)
  | .never => fun _ => none
  | .ext _ sem es => sem (evL es)
def evSs : Ss → EvS
  | .nil => sNx
  | .cons s ss => sSeq (evS s) (evSs ss)
  | .never => fun _ => none
end
/-! ### looks -/
def locF (sc : Scope) (x : Str) : Bool := match sc.names.lookup x with
  | some .local => true
  | some .cell => true
  | _ => false
theorem locF_ok {sc : Scope} {x : Str} (h : locF sc x = true) : Loc sc x := by
  unfold locF at h
  split at h
  · exact .inl (by assumption)
  · exact .inr (by assumption)
  · cases h
def isLc (sc : Scope) (x : Str) : Bool := match sc.names.lookup x with
  | some .local => true
  | _ => false
theorem isLc_ok {sc : Scope} {x : Str} (h : isLc sc x = true) : sc.names.lookup x = some .local := by
  unfold isLc at h
  split at h
  · assumption
  · cases h
/-- whether a comprehension and its name are swapped -/
def swB (sc : Scope) (v : Expr) (x : Str) (l : Nat) : Bool := match v with
  | .ListComp _ _ s p => isLc sc x && (l == p.line) && !(s.names.any fun (n, k) => n == x && (k == .local || k == .cell))
  | _ => false
def compOrNot : Expr → Bool
  | .SetComp _ _ _ _ => false
  | .DictComp _ _ _ _ _ => false
  | _ => true
theorem blockF {env : Env} (h : env.scope.kind = .function) : env.blockKind = .function := by unfold Env.blockKind; rw [h]; rfl
theorem isLc_eq (sc : Scope) (x : Str) : (sc.names.lookup x == some .local) = isLc sc x := by
  unfold isLc
  cases h : sc.names.lookup x with
  | none => rfl
  | some k => cases k <;> rfl
theorem swB_ok {env : Env} {v : Expr} {x : Str} {pp : Pos} {l : Nat} (hk : env.scope.kind = .function) (hc : compOrNot v = true) : swapsWith v (some (.Name x pp)) l env = pure (swB env.scope v x pp.line) := by
  cases v with
  | ListComp elt gs s p =>
    have e : swapsWith (.ListComp elt gs s p) (some (.Name x pp)) l env = pure (env.blockKind == .function && env.kindOf x == some .local && pp.line == p.line && !(s.names.any fun (n, k) => n == x && (k == .local || k == .cell))) := rfl
    rw [e, blockF hk]
    show pure (true && (env.scope.names.lookup x == some .local) && pp.line == p.line && !_) = _
    rw [isLc_eq]
    simp only [swB, Bool.true_and]
  | SetComp _ _ _ _ => cases hc
  | DictComp _ _ _ _ _ => cases hc
  | _ => rfl
def notTup : Expr → Bool
  | .Tuple _ _ _ => false
  | _ => true
theorem noSw_ok {t v : Expr} {env : Env} (h : notTup v = true) : swappedStores [t] v env = pure none := by
  unfold swappedStores
  cases v <;> first | (cases t <;> rfl) | cases h
/-- two plain names at once -/
def swP (sc : Scope) (x y : Str) (px py : Pos) (a b : Expr) : Bool := isLc sc x && isLc sc y && (py.line == px.line) && decide (x ≠ y) && notStar a && notStar b && !([a, b].all (foldedForSure 8)) && !([a, b].all (constantsAlone 8))
/-- .. of which not both are plain -/
def swN (sc : Scope) (x y : Str) (a b : Expr) : Bool := (!isLc sc x || !isLc sc y) && locF sc x && locF sc y && notStar a && notStar b
theorem swN_ok {env : Env} {x y : Str} {px py pt pt2 : Pos} {kt k2 : Nat} {a b : Expr} (h : swN env.scope x y a b = true) : swappedStores [.Tuple [.Name x px, .Name y py] kt pt] (.Tuple [a, b] k2 pt2) env = pure none := by
  unfold swN at h
  simp only [Bool.and_eq_true] at h
  obtain ⟨⟨⟨⟨h1, _⟩, _⟩, h5⟩, h6⟩ := h
  have hk : ∀ x, (env.kindOf x == some .local) = isLc env.scope x := fun x => isLc_eq env.scope x
  unfold swappedStores
  dsimp only
  split
  · rfl
  · rw [if_neg (by
      intro hh
      rw [List.any_eq_true] at hh
      obtain ⟨e, he, hm⟩ := hh
      simp only [List.mem_cons, List.not_mem_nil, or_false] at he
      have hst : notStar e = true := by rcases he with rfl | rfl <;> assumption
      cases e <;> first | (dsimp only at hm; cases hm; done) | (cases hst; done))]
    rw [if_pos]
    rw [Bool.or_eq_true]
    left
    rw [bne_iff_ne]
    rw [Bool.or_eq_true, Bool.not_eq_true', Bool.not_eq_true'] at h1
    rcases h1 with h1 | h1
    · simp only [List.filterMap_cons, hk, h1, Bool.false_and, Bool.false_eq_true, if_false, List.filterMap_nil]
      split <;> simp
    · simp only [List.filterMap_cons, hk, h1, Bool.false_and, Bool.false_eq_true, if_false, List.filterMap_nil]
      split <;> simp
theorem swP_ok {env : Env} {x y : Str} {px py pt pt2 : Pos} {kt k2 : Nat} {a b : Expr} (hk : env.scope.kind = .function) (h : swP env.scope x y px py a b = true) : swappedStores [.Tuple [.Name x px, .Name y py] kt pt] (.Tuple [a, b] k2 pt2) env = pure (some [x, y]) := by
  unfold swP at h
  simp only [Bool.and_eq_true, decide_eq_true_eq, Bool.not_eq_true'] at h
  obtain ⟨⟨⟨⟨⟨⟨⟨h1, h2⟩, h3⟩, h4⟩, h5⟩, h6⟩, h7⟩, h8⟩ := h
  have k1 : env.kindOf x = some .local := isLc_ok h1
  have k2' : env.kindOf y = some .local := isLc_ok h2
  have er : [x, y].eraseDups.length = 2 := by
    have : (y == x) = false := by simp; exact fun e => h4 e.symm
    simp [List.eraseDups_cons, this]
  unfold swappedStores
  dsimp only
  rw [if_neg (by simp [blockF hk]), if_neg (by
    intro hh
    rw [List.any_eq_true] at hh
    obtain ⟨e, he, hm⟩ := hh
    simp only [List.mem_cons, List.not_mem_nil, or_false] at he
    have hst : notStar e = true := by rcases he with rfl | rfl <;> assumption
    cases e <;> first | (dsimp only at hm; cases hm; done) | (cases hst; done))]
  generalize hnames : List.filterMap _ [Expr.Name x px, Expr.Name y py] = names
  have hn : names = [x, y] := by
    rw [← hnames]
    simp [k1, k2', eq_of_beq h3, Expr.pos]
  subst hn
  rw [if_neg (by rw [er]; exact Bool.false_ne_true), if_neg (by rw [h7]; decide), if_neg (by rw [h8]; decide)]
/-! ### the looks at statements -/
mutual
def chkG (N : List Str) (sc : Scope) : Gt → Expr → Bool
  | .nm i, e => (match e with
    | .Name x _ => decide (N[i]? = some x) && locF sc x
    | _ => false)
  | .ix a b, e => (match e with
    | .Subscript o i _ => notSlice i && chkE N sc a o && chkE N sc b i
    | _ => false)
  | .tp gs, e => (match e with
    | .Tuple es _ _ => chkGs N sc gs es
    | _ => false)
  | .ext sh _ es, e => (match sh sc e with
    | some vs => chkL N sc es vs
    | none => false)
def chkGs (N : List Str) (sc : Scope) : Gts → List Expr → Bool
  | .nil, es => (match es with
    | [] => true
    | _ => false)
  | .cons g gs, es => (match es with
    | e :: r => notStar e && chkG N sc g e && chkGs N sc gs r
    | _ => false)
end
def chkP (N : List Str) (sc : Scope) : PEl → Expr → Bool
  | .v a, e => chkE N sc a e
  | .o f, e => chkF N sc f e
mutual
def chkS (N : List Str) (sc : Scope) : S → Stmt → Bool
  | .set i a, st => (match st with
    | .Assign [.Name x p] v _ => decide (N[i]? = some x) && locF sc x && compOrNot v && !(swB sc v x p.line) && chkE N sc a v
    | _ => false)
  | .setC i f, st => (match st, f with
    | .Assign [.Name x p] v _, .comp _ _ _ _ _ => decide (N[i]? = some x) && isLc sc x && compOrNot v && swB sc v x p.line && chkF N sc f v
    | _, _ => false)
  | .own i f, st => (match st with
    | .Assign [.Name x p] v _ => decide (N[i]? = some x) && locF sc x && compOrNot v && !(swB sc v x p.line) && chkF N sc f v
    | _ => false)
  | .ownC i f, st => (match st, f with
    | .Assign [.Name x p] v _, .comp _ _ _ _ _ => decide (N[i]? = some x) && isLc sc x && compOrNot v && swB sc v x p.line && chkF N sc f v
    | _, _ => false)
  | .asg g a, st => (match st with
    | .Assign [t] v _ => notStar t && notTup v && notComp v && chkG N sc g t && chkE N sc a v
    | _ => false)
  | .par i j a b, st => (match st with
    | .Assign [.Tuple [.Name x px, .Name y py] _ _] (.Tuple [v, w] _ _) _ => decide (N[i]? = some x) && decide (N[j]? = some y) && decide (i ≠ j) && (swP sc x y px py v w || swN sc x y v w) && chkP N sc a v && chkP N sc b w
    | _ => false)
  | .exp a, st => (match st with
    | .Expr v _ => notComp v && chkE N sc a v
    | _ => false)
  | .ret a, st => (match st with
    | .Return (some v) _ => chkE N sc a v
    | _ => false)
  | .ife t a b, st => (match st with
    | .If c xs ys _ => chkE N sc t c && chkSs N sc a xs && chkSs N sc b ys
    | _ => false)
  | .fors it g b, st => (match st with
    | .For tg iter body [] _ => chkI N sc it iter tg && notSet iter && chkG N sc g tg && chkSs N sc b body
    | _ => false)
  | .whil _ t b, st => (match st with
    | .While c body [] _ => chkE N sc t c && chkSs N sc b body
    | _ => false)
  | .pass, st => (match st with
    | .Pass _ => true
    | _ => false)
  | .brk, st => (match st with
    | .Break _ => true
    | _ => false)
  | .cont, st => (match st with
    | .Continue _ => true
    | _ => false)
  | .never, _ => true
  | .ext sh _ es, st => (match sh N sc st with
    | some vs => chkL N sc es vs
    | none => false)
def chkSs (N : List Str) (sc : Scope) : Ss → List Stmt → Bool
  | .nil, st => (match st with
    | [] => true
    | _ => false)
  | .cons s ss, st => (match st with
    | x :: r => chkS N sc s x && chkSs N sc ss r
    | _ => false)
  | .never, _ => true
end
def ExtG (G : GX) (lv : Nat) (sh : Scope → Expr → Option (List Expr)) (sem : List Ev → EvG) : Prop := ∀ (N : List Str) (sc : Scope) (X : Cx), Fits G lv N sc X → (∀ x, X.fn x = true) → ∀ (e : Expr) (vs : List Expr), sh sc e = some vs → ∀ (fs : List Ev), (∀ B, PEL X G.W B vs fs) → ∀ B, PG X e (tgv G.W B (sem fs))
def ExtS (G : GX) (lv : Nat) (sh : List Str → Scope → Stmt → Option (List Expr)) (sem : List Ev → EvS) : Prop := ∀ (N : List Str) (sc : Scope) (X : Cx), Fits G lv N sc X → sc.kind = .function → (∀ x, X.fn x = true) → ∀ (e : Stmt) (vs : List Expr), sh N sc e = some vs → ∀ (fs : List Ev), (∀ B, PEL X G.W B vs fs) → ∀ B, PS X e (tss G.W B (sem fs))
mutual
def needG (G : GX) (lv : Nat) : Gt → Prop
  | .nm _ => True
  | .ix a b => needE G lv a ∧ needE G lv b
  | .tp gs => needGs G lv gs
  | .ext sh sem es => ExtG G lv sh sem ∧ needEs G lv es
def needGs (G : GX) (lv : Nat) : Gts → Prop
  | .nil => True
  | .cons g gs => needG G lv g ∧ needGs G lv gs
end
def needP (G : GX) (lv : Nat) : PEl → Prop
  | .v a => needE G lv a
  | .o f => needF G lv f
mutual
def needS (G : GX) (lv : Nat) : S → Prop
  | .set _ a => needE G lv a
  | .setC _ f => needF G lv f
  | .own _ f => needF G lv f
  | .ownC _ f => needF G lv f
  | .asg g a => needG G lv g ∧ needE G lv a
  | .par _ _ a b => needP G lv a ∧ needP G lv b
  | .exp a => needE G lv a
  | .ret a => needE G lv a
  | .ife t a b => needE G lv t ∧ needSs G lv a ∧ needSs G lv b
  | .fors it g b => needI G lv it ∧ needG G lv g ∧ needSs G lv b
  | .whil _ t b => needE G lv t ∧ needSs G lv b
  | .pass => True
  | .brk => True
  | .cont => True
  | .never => True
  | .ext sh sem es => ExtS G lv sh sem ∧ needEs G lv es
def needSs (G : GX) (lv : Nat) : Ss → Prop
  | .nil => True
  | .cons s ss => needS G lv s ∧ needSs G lv ss
  | .never => True
end
theorem gs_len {N : List Str} {sc : Scope} {env : Env} : ∀ {gs : Gts} {es : List Expr}, chkGs N sc gs es = true → (assignEach es env).length = gs.len ∧ (assignEach es env).findIdx? (·.1) = none
  | .nil, es, h => by
    unfold chkGs at h
    split at h
    · exact ⟨rfl, rfl⟩
    · cases h
  | .cons g gs, es, h => by
    unfold chkGs at h
    split at h
    · rename_i e r
      simp only [Bool.and_eq_true] at h
      obtain ⟨a, b⟩ := gs_len (env := env) h.2
      have hs : assignEach (e :: r) env = (false, assign e env) :: assignEach r env := by
        have h1 := h.1.1
        cases e <;> first | rfl | cases h1
      rw [hs]
      refine ⟨by show (assignEach r env).length + 1 = _; rw [a]; rfl, ?_⟩
      rw [List.findIdx?_cons]
      simp [b]
    · cases h
mutual
theorem sG {G : GX} {lv : Nat} : ∀ (ir : Gt) {N : List Str} {sc : Scope} {e : Expr}, chkG N sc ir e = true → needG G lv ir → ∀ {X : Cx}, Fits G lv N sc X → (∀ x, X.fn x = true) → ∀ B : Bs, PG X e (tgv G.W B (evG ir))
  | .nm i, N, sc, e, h, n, X, fx, hf, B => by
    unfold chkG at h
    split at h
    · simp only [Bool.and_eq_true, decide_eq_true_eq] at h
      exact pg_nameD (by rw [fx.n]; exact fx.nd) (by rw [fx.n]; exact h.1) (by rw [fx.sc]; exact locF_ok h.2) (.inl (hf _))
    · cases h
  | .ix a b, N, sc, e, h, n, X, fx, hf, B => by
    unfold chkG at h
    split at h
    · rename_i o i p
      simp only [Bool.and_eq_true] at h
      unfold needG at n
      refine pg_subD (sE a h.1.2 n.1 fx B) (sE b h.2 n.2 fx B) fun v => ?_
      have h1 := h.1.1
      cases i <;> first | rfl | cases h1
    · cases h
  | .tp gs, N, sc, e, h, n, X, fx, hf, B => by
    unfold chkG at h
    split at h
    · unfold needG at n
      obtain ⟨a, b⟩ := gs_len (env := X.env) h
      exact pg_tupD fx.k fx.calm (sGs gs h n fx hf B) a b
    · cases h
  | .ext sh sem es, N, sc, e, h, n, X, fx, hf, B => by
    unfold chkG at h
    split at h
    · rename_i vs hs
      unfold needG at n
      exact n.1 N sc X fx hf e vs hs _ (sL es h n.2 fx) B
    · cases h
theorem sGs {G : GX} {lv : Nat} : ∀ (ir : Gts) {N : List Str} {sc : Scope} {es : List Expr}, chkGs N sc ir es = true → needGs G lv ir → ∀ {X : Cx}, Fits G lv N sc X → (∀ x, X.fn x = true) → ∀ B : Bs, PGs X es (tgvs G.W B (evGs ir))
  | .nil, N, sc, es, h, n, X, fx, hf, B => by
    unfold chkGs at h
    split at h
    · exact pgs_nilD
    · cases h
  | .cons g gs, N, sc, es, h, n, X, fx, hf, B => by
    unfold chkGs at h
    split at h
    · rename_i e r
      simp only [Bool.and_eq_true] at h
      unfold needGs at n
      refine pgs_consD (sG g h.1.2 n.1 fx hf B) (sGs gs h.2 n.2 fx hf B) ?_
      have h1 := h.1.1
      cases e <;> first | rfl | cases h1
    · cases h
end
theorem sP {G : GX} {lv : Nat} (ir : PEl) {N : List Str} {sc : Scope} {e : Expr} (h : chkP N sc ir e = true) (n : needP G lv ir) {X : Cx} (fx : Fits G lv N sc X) (B : Bs) : PE X e (tpl G.W B (evP ir)) := by
  cases ir with
  | v a => exact pe_plv (sE a h n fx B)
  | o f => exact pe_plo (sF f h n fx B)
/-- a comprehension given to a name, swapped -/
theorem s_lc {G : GX} {lv : Nat} {it : IE} {ct : CT} {t : Oe} {el : E} {own : List (Str × Nat)} {i : Nat} {N : List Str} {sc : Scope} {x : Str} {p pos : Pos} {v : Expr} {X : Cx} (fx : Fits G lv N sc X) (hk : sc.kind = .function) (h1 : N[i]? = some x) (h2 : isLc sc x = true) (hc : compOrNot v = true) (h3 : swB sc v x p.line = true) (h4 : chkF N sc (.comp it ct t el own) v = true) (n : needF G lv (.comp it ct t el own)) (B : Bs) :
    PS X (.Assign [.Name x p] v pos) (tss G.W B (sOwn i (evF (.comp it ct t el own)))) := by
  have hsw : swapsWith v (some (.Name x p)) pos.line X.env = pure true := by rw [swB_ok (by rw [fx.sc]; exact hk) hc, fx.sc, h3]
  unfold chkF at h4
  split at h4
  · rename_i elt tg iter ifs scope cpos
    simp only [Bool.and_eq_true] at h4
    obtain ⟨⟨⟨⟨⟨⟨g1, g2⟩, g3⟩, g4⟩, g5⟩, g6⟩, g7⟩ := h4
    unfold needF at n
    have bo : BlkOk X.N X.env.scope scope own := by rw [fx.n, fx.sc]; exact blkOk_by g1
    refine ps_lcOwnD fx.k fx.calm (by rw [fx.n]; exact fx.nd) (by rw [fx.n]; exact h1) (by rw [fx.sc]; exact isLc_ok h2) hsw (sI it g2 n.1 fx B) bo (fun s H C cl fp => ?_) (fun i hi => ?_) (fun s H C cl fp B => ?_) (fun s H C cl fp B => ?_) (fold_ok g3)
    · have f2 := fx.blk (scope := scope) s H C cl fp
      exact ct_ok f2.calm f2.n f2.nd f2.sc (fun x q => q) g4
    · rw [List.all_eq_true] at g5
      simpa using g5 i hi
    · exact sOT t g6 n.2.1 (fx.blk (scope := scope) s H C cl fp) B
    · exact sE el g7 n.2.2 (fx.blk (scope := scope) s H C cl fp) B
  · cases h4
mutual
theorem sS {G : GX} {lv : Nat} : ∀ (ir : S) {N : List Str} {sc : Scope} {st : Stmt}, chkS N sc ir st = true → needS G lv ir → ∀ {X : Cx}, Fits G lv N sc X → sc.kind = .function → (∀ x, X.fn x = true) → ∀ B : Bs, PS X st (tss G.W B (evS ir))
  | .set i a, N, sc, st, h, n, X, fx, hk, hf, B => by
    unfold chkS at h
    split at h
    · simp only [Bool.and_eq_true, decide_eq_true_eq, Bool.not_eq_true'] at h
      obtain ⟨⟨⟨⟨h1, h2⟩, h3⟩, h4⟩, h5⟩ := h
      unfold needS at n
      exact ps_setD (by rw [fx.n]; exact fx.nd) (by rw [fx.n]; exact h1) (by rw [fx.sc]; exact locF_ok h2) (sE a h5 n fx B) (by rw [swB_ok (by rw [fx.sc]; exact hk) h3, fx.sc, h4]) (.inl (hf _))
    · cases h
  | .setC i f, N, sc, st, h, n, X, fx, hk, hf, B => by
    unfold chkS at h
    split at h
    · simp only [Bool.and_eq_true, decide_eq_true_eq] at h
      obtain ⟨⟨⟨⟨h1, h2⟩, h3⟩, h4⟩, h5⟩ := h
      unfold needS at n
      exact ps_frzD (s_lc fx hk h1 h2 h3 h4 h5 n B)
    · cases h
  | .own i f, N, sc, st, h, n, X, fx, hk, hf, B => by
    unfold chkS at h
    split at h
    · simp only [Bool.and_eq_true, decide_eq_true_eq, Bool.not_eq_true'] at h
      obtain ⟨⟨⟨⟨h1, h2⟩, h3⟩, h4⟩, h5⟩ := h
      unfold needS at n
      exact ps_ownD (by rw [fx.n]; exact fx.nd) (by rw [fx.n]; exact h1) (by rw [fx.sc]; exact locF_ok h2) (sF f h5 n fx B) (by rw [swB_ok (by rw [fx.sc]; exact hk) h3, fx.sc, h4]) (.inl (hf _))
    · cases h
  | .ownC i f, N, sc, st, h, n, X, fx, hk, hf, B => by
    unfold chkS at h
    split at h
    · simp only [Bool.and_eq_true, decide_eq_true_eq] at h
      obtain ⟨⟨⟨⟨h1, h2⟩, h3⟩, h4⟩, h5⟩ := h
      unfold needS at n
      exact s_lc fx hk h1 h2 h3 h4 h5 n B
    · cases h
  | .asg g a, N, sc, st, h, n, X, fx, hk, hf, B => by
    unfold chkS at h
    split at h
    · rename_i t v p
      simp only [Bool.and_eq_true] at h
      obtain ⟨⟨⟨⟨h1, h2⟩, h3⟩, h4⟩, h5⟩ := h
      unfold needS at n
      refine ps_asgD (sE a h5 n.2 fx B) (sG g h4 n.1 fx hf B) (swap_ok h3) (noSw_ok h2) ?_
      cases t <;> first | rfl | cases h1
    · cases h
  | .par i j a b, N, sc, st, h, n, X, fx, hk, hf, B => by
    unfold chkS at h
    split at h
    · rename_i x px y py _ _ v w _ _ _
      simp only [Bool.and_eq_true, decide_eq_true_eq] at h
      obtain ⟨⟨⟨⟨⟨h1, h2⟩, h3⟩, h4⟩, h5⟩, h6⟩ := h
      unfold needS at n
      rw [Bool.or_eq_true] at h4
      rcases h4 with h4 | h4
      case inr =>
        have h4' := h4
        unfold swN at h4'
        simp only [Bool.and_eq_true] at h4'
        obtain ⟨⟨⟨⟨_, l1⟩, l2⟩, s1⟩, s2⟩ := h4'
        exact ps_par2T fx.calm (by rw [fx.n]; exact fx.nd) (by rw [fx.n]; exact h1) (by rw [fx.n]; exact h2) (by rw [fx.sc]; exact locF_ok l1) (by rw [fx.sc]; exact locF_ok l2) hf (fun B => sP a h5 n.1 fx B) (fun B => sP b h6 n.2 fx B) (star_ok s1) (star_ok s2) (swN_ok (by rw [fx.sc]; exact h4)) rfl
      have h4' := h4
      unfold swP at h4'
      simp only [Bool.and_eq_true] at h4'
      obtain ⟨⟨⟨⟨⟨⟨⟨l1, l2⟩, _⟩, _⟩, s1⟩, s2⟩, _⟩, _⟩ := h4'
      exact ps_par2D fx.calm (by rw [fx.n]; exact fx.nd) (by rw [fx.n]; exact h1) (by rw [fx.n]; exact h2) h3 (by rw [fx.sc]; exact isLc_ok l1) (by rw [fx.sc]; exact isLc_ok l2) (fun B => sP a h5 n.1 fx B) (fun B => sP b h6 n.2 fx B) (star_ok s1) (star_ok s2) (swP_ok (by rw [fx.sc]; exact hk) (by rw [fx.sc]; exact h4)) rfl
    · cases h
  | .exp a, N, sc, st, h, n, X, fx, hk, hf, B => by
    unfold chkS at h
    split at h
    · simp only [Bool.and_eq_true] at h
      unfold needS at n
      exact ps_exprD (sE a h.2 n fx B) (swap_ok h.1)
    · cases h
  | .ret a, N, sc, st, h, n, X, fx, hk, hf, B => by
    unfold chkS at h
    split at h
    · unfold needS at n
      exact ps_retD (sE a h n fx B)
    · cases h
  | .ife t a b, N, sc, st, h, n, X, fx, hk, hf, B => by
    unfold chkS at h
    split at h
    · simp only [Bool.and_eq_true] at h
      unfold needS at n
      exact ps_ifD (sT t h.1.1 n.1 fx B) (sSs a h.1.2 n.2.1 fx hk hf B) (sSs b h.2 n.2.2 fx hk hf B)
    · cases h
  | .fors it g b, N, sc, st, h, n, X, fx, hk, hf, B => by
    unfold chkS at h
    split at h
    · simp only [Bool.and_eq_true] at h
      obtain ⟨⟨⟨h1, h2⟩, h3⟩, h4⟩ := h
      unfold needS at n
      exact ps_forD (by rw [fx.nox]; exact PassesOwn.never) fx.calm (sI it h1 n.1 fx B) (sG g h3 n.2.1 fx hf B) (sSs b h4 n.2.2 fx hk hf B) (fold_ok h2)
    · cases h
  | .whil m t b, N, sc, st, h, n, X, fx, hk, hf, B => by
    unfold chkS at h
    split at h
    · simp only [Bool.and_eq_true] at h
      unfold needS at n
      exact ps_whileD (by rw [fx.nox]; exact PassesOwn.never) (sT t h.1 n.1 fx B) (sSs b h.2 n.2 fx hk hf B)
    · cases h
  | .pass, N, sc, st, h, n, X, fx, hk, hf, B => by
    unfold chkS at h
    split at h
    · exact ps_passD
    · cases h
  | .brk, N, sc, st, h, n, X, fx, hk, hf, B => by
    unfold chkS at h
    split at h
    · exact ps_breakD
    · cases h
  | .cont, N, sc, st, h, n, X, fx, hk, hf, B => by
    unfold chkS at h
    split at h
    · exact ps_contD
    · cases h
  | .never, N, sc, st, h, n, X, fx, hk, hf, B => ps_neverD
  | .ext sh sem es, N, sc, st, h, n, X, fx, hk, hf, B => by
    unfold chkS at h
    split at h
    · rename_i vs hs
      unfold needS at n
      exact n.1 N sc X fx hk hf st vs hs _ (sL es h n.2 fx) B
    · cases h
theorem sSs {G : GX} {lv : Nat} : ∀ (ir : Ss) {N : List Str} {sc : Scope} {st : List Stmt}, chkSs N sc ir st = true → needSs G lv ir → ∀ {X : Cx}, Fits G lv N sc X → sc.kind = .function → (∀ x, X.fn x = true) → ∀ B : Bs, PSs X st (tss G.W B (evSs ir))
  | .nil, N, sc, st, h, n, X, fx, hk, hf, B => by
    unfold chkSs at h
    split at h
    · exact ss_nilD
    · cases h
  | .cons s ss, N, sc, st, h, n, X, fx, hk, hf, B => by
    unfold chkSs at h
    split at h
    · simp only [Bool.and_eq_true] at h
      unfold needSs at n
      exact ss_consD (sS s h.1 n.1 fx hk hf B) (sSs ss h.2 n.2 fx hk hf B)
    · cases h
  | .never, N, sc, st, h, n, X, fx, hk, hf, B => pss_neverD
end
/-! ### a def -/
def toDV : D → DV
  | .brw ds => .brw ds
  | d => .imm d
def rho0 (n : Nat) (ds : List D) : Rho := ds.map (fun d => some (toDV d)) ++ List.replicate (n - ds.length) none
/-- what a def computes; n: its names -/
def fnD (n : Nat) (b : Ss) : Fn := fun ds S => match evSs b (rho0 n ds, S) with
  | some (.rt d, z) => some (d, z.2)
  | some (.nx, z) => some (.non, z.2)
  | _ => none
theorem zr_start {W : Wd} {ι : List Addr} {H : Hp} {S : Store} {n : Nat} {N : List Str} {ds : List D} {vs : List V} (hn : N.length = n) (hl : ds.length ≤ n) (r : Paired (Rep W ι H) ds vs) (st : StRep W ι H S) : ZR W ⟨ι, H, fun _ => none⟩ ι H (L2.start N vs) (rho0 n ds, S) := by
  have hlen : ds.length = vs.length := Paired.length r
  have get : ∀ (i : Nat) (dv : DV), (rho0 n ds)[i]? = some (some dv) → ∃ d, ds[i]? = some d ∧ dv = toDV d := fun i dv h => by
    unfold rho0 at h
    by_cases hi : i < ds.length
    · rw [List.getElem?_append_left (by simpa using hi), List.getElem?_map, List.getElem?_eq_getElem hi] at h
      simp only [Option.map_some, Option.some.injEq] at h
      exact ⟨ds[i], List.getElem?_eq_getElem hi, h.symm⟩
    · rw [List.getElem?_append_right (by simpa using hi), List.getElem?_replicate] at h
      split at h <;> cases h
  have getV : ∀ (i : Nat) (v : V), vs[i]? = some v → (L2.start N vs)[i]? = some (some v) := fun i v h => by
    unfold L2.start
    have hi : i < vs.length := (List.getElem?_eq_some_iff.mp h).1
    rw [List.getElem?_append_left (by simpa using hi), List.getElem?_map, h]
    rfl
  have pr : ∀ {ds : List D} {vs : List V}, Paired (Rep W ι H) ds vs → ∀ (i : Nat) (d : D), ds[i]? = some d → ∃ v, vs[i]? = some v ∧ Rep W ι H d v := by
    intro ds vs r
    induction r with
    | nil => intro i d h; simp at h
    | cons q t ih =>
      intro i d h
      cases i with
      | zero => simp at h; subst h; exact ⟨_, rfl, q⟩
      | succ i => exact ih i d (by simpa using h)
  refine ⟨st, List.prefix_refl _, fun a h nn => absurd h nn, fun b o e _ => e, fun _ _ => rfl, (fun b o e => by cases e), ?_, fun i dv h => ?_, fun i j dv dv' a h1 o1 => ?_⟩
  · show (rho0 n ds).length = _
    unfold rho0 L2.start
    simp only [List.length_append, List.length_map, List.length_replicate]
    omega
  · obtain ⟨d, hd, rfl⟩ := get i dv h
    obtain ⟨v, hv, rv⟩ := pr r i d hd
    refine ⟨v, getV i v hv, ?_⟩
    cases d with
    | brw l =>
      unfold Rep at rv
      obtain ⟨l1, a, xs, e, ha, hn, rl⟩ := rv
      exact ⟨l1, a, xs, e, ha, ha, hn, hn, rl⟩
    | bor _ => unfold Rep at rv; exact rv.elim
    | _ => exact ⟨rfl, rv⟩
  · obtain ⟨d, hd, rfl⟩ := get i dv h1
    cases d <;> cases o1
theorem fn_ok {P : Program} {w : World} {K : PySem.W.Frag} {mg : Str → Option Value} {base : Heap} {W : Wd} {x qual : Str} {params : Arguments} {body : List Stmt} {scope : Scope} {f : Addr} {fd : FuncData} {N ps : List Str} {lv n : Nat} {b : Ss} (hK : W.K = K)
    (F : FunD K x qual params body scope [] [] f fd) (S : FnScope N ps scope) (hn : N.length = n) (hp : ps.length ≤ n) (hc : chkSs N scope b body = true) (nd : needSs ⟨P, w, mg, base, W⟩ lv b) : FnG P w K mg base (lv + 1) f fd ps (spD W ps.length (fnD n b)) := by
  refine fnG_of F S (fun vs H Q E h => ?_) fun cdv A outer s H vs Q E hr hgd h => ⟨tss W ⟨h.choose, H, fun _ => none⟩ (evSs b), PSs.nox ?_, ?_⟩
  · obtain ⟨ι, S', ds, d, S2, hl, r, _⟩ := h
    rw [← hl, Paired.length r]
  · refine sSs (G := ⟨P, w, mg, base, W⟩) (lv := lv) b hc nd ⟨rfl, rfl, hK.symm, rfl, rfl, rfl, hr, hgd, rfl, S.nd, rfl, rfl⟩ S.kind (fun _ => rfl) _
  · have h2 := h.choose_spec
    generalize h.choose = ι at h2
    obtain ⟨S', ds, d, S2, hl, r, st, e, k⟩ := h2
    have zr := zr_start (N := N) hn (by rw [hl]; exact hp) r st
    unfold fnD at e
    split at e
    · rename_i d1 z1 e2
      cases e
      exact ⟨ι, _, _, _, zr, e2, fun σ' ι' H' k1 zr1 v pl rp => k v ι' H' ⟨zr1.pre, zr1.new, zr1.keep⟩ zr1.st pl rp⟩
    · rename_i z1 e2
      cases e
      exact ⟨ι, _, _, _, zr, e2, fun σ' ι' H' k1 zr1 => k .non ι' H' ⟨zr1.pre, zr1.new, zr1.keep⟩ zr1.st rfl (by unfold Rep; rfl)⟩
    · cases e
end DE
set_option Elab.async false
set_option linter.all false
set_option maxRecDepth 100000
set_option maxHeartbeats 4000000
/-! DE12: the operations on data, each with its rule. -/
namespace DE
open PySem PySem.Spec L2
section
variable {W : Wd} {ι : List Addr} {H : Hp}
theorem rrep_str {s : List Nat} {v : V} (h : RRep W ι H (.str s) v) : v = .str (SX.S s) ∧ s.length ≤ sizeLine := by
  obtain ⟨_, h⟩ := h
  unfold Rep at h
  exact h
theorem rrep_bl {b : Bool} {v : V} (h : RRep W ι H (.bl b) v) : v = .bl b := by
  obtain ⟨_, h⟩ := h
  unfold Rep at h
  exact h
theorem rrep_non {v : V} (h : RRep W ι H .non v) : v = .non := by
  obtain ⟨_, h⟩ := h
  unfold Rep at h
  exact h
theorem rrep_lst {ds : List D} {v : V} (h : RRep W ι H (.lst ds) v) : ds.length ≤ sizeLine ∧ ∃ a xs, v = .ref a ∧ LsR W.K H a xs ∧ RepL W ι H ds xs := h
theorem rrep_tup {ds : List D} {v : V} (h : RRep W ι H (.tup ds) v) : ds.length ≤ sizeLine ∧ ∃ a xs, v = .ref a ∧ SqT W.K H a xs ∧ RepL W ι H ds xs := by
  obtain ⟨_, h⟩ := h
  unfold Rep at h
  exact h
theorem rep_int {i : Int} : Rep W ι H (.int i) (.int i) := by unfold Rep; rfl
theorem rep_bl' {b : Bool} : Rep W ι H (.bl b) (.bl b) := by unfold Rep; rfl
theorem rep_str {s : List Nat} (h : s.length ≤ sizeLine) : Rep W ι H (.str s) (.str (SX.S s)) := by unfold Rep; exact ⟨rfl, h⟩
theorem rep_tup {ds : List D} {a : Addr} {xs : List V} (h : ds.length ≤ sizeLine) (s : SqT W.K H a xs) (r : RepL W ι H ds xs) : Rep W ι H (.tup ds) (.ref a) := by unfold Rep; exact ⟨h, a, xs, rfl, s, r⟩
end
def okN (n : Nat) : Bool := Nat.ble n 16777216
theorem okN_le {n : Nat} (h : okN n = true) : n ≤ sizeLine := by rw [sizeLine_eq]; exact Nat.le_of_ble_eq_true h
/-! ### + -/
def rCatR (K : PySem.W.Frag) : R2 := fun x y H Q => ∃ l b xs zs, x = .ref l ∧ y = .ref b ∧ LsR K H l xs ∧ LsR K H b zs ∧ xs.length + zs.length ≤ sizeLine ∧ ∀ p, H p = none → Q (.ref p) (upd H p (.lst (xs ++ zs)))
theorem op_catR {X : Cx} : OpR X (binaryOp .Add) (rCatR X.K) := by
  intro pins s σ H x y v u Q I rx ry h
  obtain ⟨l, b, xs, zs, rfl, rfl, hH, hB, hz, q⟩ := h
  cases rx
  cases ry
  obtain ⟨z, its, n, r, hl, e⟩ := rdM I hH
  obtain ⟨z2, its2, n2, r2, hl2, e2⟩ := rdM I hB
  refine PySem.P.add_list e e2 ?_ (by rw [List.size_toArray, List.size_toArray]; omega)
  have ea : its.toArray ++ its2.toArray = (its ++ its2).toArray := by simp
  rw [ea]
  exact ⟨.ref _, _, I.lnew (t' := s.toks) (r.append r2) (by rw [List.length_append]; omega), rfl, q _ I.fresh⟩
def addD : D → D → Option D
  | .int a, .int b => some (.int (a + b))
  | .str a, .str b => if okN (a.length + b.length) then some (.str (a ++ b)) else none
  | .lst a, .lst b => if okN (a.length + b.length) then some (.lst (a ++ b)) else none
  | .tup a, .tup b => if okN (a.length + b.length) then some (.tup (a ++ b)) else none
  | _, _ => none
theorem addN {W : Wd} : BinN W .Add addD := fun X ad => by
  refine ⟨_, op_add.or (op_add_str.or (op_catR.or op_catA)), fun ι H x y v w d Q e rx ry k kk => ?_⟩
  unfold addD at e
  split at e
  · cases e
    exact .inl ⟨_, _, rrep_int rx, rrep_int ry, k _ H (fun _ _ e => e) rfl rep_int⟩
  · rename_i a b
    split at e
    · rename_i h
      cases e
      have hl := okN_le h
      obtain ⟨rfl, la⟩ := rrep_str rx
      obtain ⟨rfl, lb⟩ := rrep_str ry
      refine .inr (.inl ⟨_, _, rfl, rfl, by rw [SX.S_len, SX.S_len]; exact hl, ?_⟩)
      rw [SX.S_cat]
      exact k _ H (fun _ _ e => e) rfl (rep_str (by rw [List.length_append]; exact hl))
    · cases e
  · rename_i a b
    split at e
    · rename_i h
      cases e
      have hl := okN_le h
      obtain ⟨la, p, xs, rfl, hx, rl⟩ := rrep_lst rx
      obtain ⟨lb, p2, xs2, rfl, hx2, rl2⟩ := rrep_lst ry
      refine .inr (.inr (.inl ⟨_, _, xs, xs2, rfl, rfl, ad.k ▸ hx, ad.k ▸ hx2, by rw [← rl.length, ← rl2.length]; exact hl, fun q hq => ?_⟩))
      exact kk _ q _ rfl hq (by rw [List.length_append]; exact hl) (rl.append rl2)
    · cases e
  · rename_i a b
    split at e
    · rename_i h
      cases e
      have hl := okN_le h
      obtain ⟨la, p, xs, rfl, hx, rl⟩ := rrep_tup rx
      obtain ⟨lb, p2, xs2, rfl, hx2, rl2⟩ := rrep_tup ry
      have hl2 : (a ++ b).length ≤ sizeLine := by rw [List.length_append]; exact hl
      refine .inr (.inr (.inr ⟨_, _, xs, xs2, rfl, rfl, ad.k ▸ hx, ad.k ▸ hx2, by rw [← rl.length, ← rl2.length]; exact hl, fun e1 => ?_, fun _ e2 => ?_, fun _ _ q hq => ?_⟩))
      · have ea : a = [] := List.length_eq_zero_iff.mp (by rw [rl.length, e1]; rfl)
        subst ea
        exact k _ H (fun _ _ e => e) rfl (rep_tup hl2 hx2 rl2)
      · have eb : b = [] := List.length_eq_zero_iff.mp (by rw [rl2.length, e2]; rfl)
        subst eb
        rw [List.append_nil] at hl2 k
        exact k _ H (fun _ _ e => e) rfl (rep_tup hl2 hx rl)
      · have kp : Kp ι H ι (upd H q (.tup (xs ++ xs2))) := Kp.alloc hq
        exact k _ _ (fun b o e => by rw [upd_ne (fun z => by rw [z, hq] at e; cases e)]; exact e) rfl (rep_tup hl2 (SqT.of upd_same) ((rl.append rl2).kp kp))
    · cases e
  · cases e
/-! ### - * // % ** -/
def subD : D → D → Option D
  | .int a, .int b => some (.int (a - b))
  | _, _ => none
theorem subN {W : Wd} : BinN W .Sub subD := fun X ad => by
  refine ⟨_, op_sub, fun ι H x y v w d Q e rx ry k kk => ?_⟩
  unfold subD at e
  split at e
  · cases e
    exact ⟨_, _, rrep_int rx, rrep_int ry, k _ H (fun _ _ e => e) rfl rep_int⟩
  · cases e
def fdivD : D → D → Option D
  | .int a, .int b => if 0 < b ∧ b < 1073741824 then some (.int (a / b)) else none
  | _, _ => none
theorem fdivN {W : Wd} : BinN W .FloorDiv fdivD := fun X ad => by
  refine ⟨_, op_fdiv, fun ι H x y v w d Q e rx ry k kk => ?_⟩
  unfold fdivD at e
  split at e
  · split at e
    · rename_i h
      cases e
      exact ⟨_, _, rrep_int rx, rrep_int ry, h, k _ H (fun _ _ e => e) rfl rep_int⟩
    · cases e
  · cases e
def modD : D → D → Option D
  | .int a, .int b => if 0 < b then some (.int (a % b)) else none
  | _, _ => none
theorem modN {W : Wd} : BinN W .Mod modD := fun X ad => by
  refine ⟨_, op_mod, fun ι H x y v w d Q e rx ry k kk => ?_⟩
  unfold modD at e
  split at e
  · split at e
    · rename_i h
      cases e
      exact ⟨_, _, rrep_int rx, rrep_int ry, h, k _ H (fun _ _ e => e) rfl rep_int⟩
    · cases e
  · cases e
def powD : D → D → Option D
  | .int a, .int b => if 0 ≤ b ∧ b ≤ 1000000 ∧ a.natAbs < 18446744073709551616 then some (.int (a ^ b.toNat)) else none
  | _, _ => none
theorem powN {W : Wd} : BinN W .Pow powD := fun X ad => by
  refine ⟨_, op_pow, fun ι H x y v w d Q e rx ry k kk => ?_⟩
  unfold powD at e
  split at e
  · split at e
    · rename_i h
      cases e
      have e2 : (2 : Nat) ^ 64 = 18446744073709551616 := by decide
      exact ⟨_, _, rrep_int rx, rrep_int ry, ⟨h.1, h.2.1, by rw [e2]; exact h.2.2⟩, k _ H (fun _ _ e => e) rfl rep_int⟩
    · cases e
  · cases e
end DE
set_option Elab.async false
set_option linter.all false
set_option maxRecDepth 100000
set_option maxHeartbeats 4000000
/-! DE13: times, comparing, places, parts. -/
namespace DE
open PySem PySem.Spec L2
/-! ### * -/
def rRepR (K : PySem.W.Frag) : R2 := fun x y H Q => ∃ l k xs, x = .ref l ∧ y = .int k ∧ LsR K H l xs ∧ -(2 ^ 63) ≤ k ∧ k < 2 ^ 63 ∧ xs.length * k.toNat ≤ sizeLine ∧
  ∀ p, H p = none → Q (.ref p) (upd H p (.lst (List.replicate k.toNat xs).flatten))
theorem op_repR {X : Cx} : OpR X (binaryOp .Mult) (rRepR X.K) := by
  intro pins s σ H x y v u Q I rx ry h
  obtain ⟨l, k, xs, rfl, rfl, hH, h1, h2, hz, q⟩ := h
  cases rx
  obtain ⟨t, rfl⟩ := ry
  obtain ⟨z, its, n, r, hl, e⟩ := rdM I hH
  have hlen : its.toArray.size * k.toNat ≤ sizeLine := by rw [List.size_toArray, ← hl]; exact hz
  have hcap : ¬ its.toArray.size * k.toNat > (2 ^ 63 - 1) / 8 := by
    have : (sizeLine : Nat) ≤ (2 ^ 63 - 1) / 8 := by decide
    omega
  have hfit : ¬ (!Builtin.List.listFitsIndex k) = true := by rw [fitsIndex_both h1 h2]; exact Bool.false_ne_true
  have hlong : ¬ Builtin.List.listTooLong (its.toArray.size * k.toNat) = true := by rw [notLongL hlen]; exact Bool.false_ne_true
  have hnew : List.foldl (fun x1 x2 => x1 ++ x2) #[] (List.replicate (if its.toArray.isEmpty = true then 0 else k.toNat) its.toArray) = (List.replicate k.toNat its).flatten.toArray := by
    have f0 := fun m => foldl_rep its m []
    simp only [List.nil_append] at f0
    rw [f0]
    cases its with
    | nil => simp
    | cons a r' => rw [if_neg (by simp)]
  refine wpAny_binaryOp_repeat_ref (T := "list") (U := "int") (by decide) ⟨_, e, rfl⟩ (fun s' => typeIs_int s' k t) noFill_list_mul F.fills_int_mul F.slot_int_rmul repeat_list F.slot_int_index.lookup
    (call_meets F.slot_int_rmul (typeIs_int s k t) F.entry_int_rmul (F.args_int_rmul_2 _ _) (int___rmul___int_list k t l its.toArray n)
      ⟨e, rfl, ⟨_, e, rfl⟩, call_meets F.slot_list_mul ⟨_, e, rfl⟩ F.entry_list_mul (F.args_list_mul_2 _ _) (AutoListH.list___mul___list_int_3 l its.toArray n k t hfit hcap hlong) ⟨e, ?_⟩⟩)
  rw [hnew]
  exact ⟨.ref _, _, I.lnew (t' := s.toks) (r.rep k.toNat) (by rw [PyProof.Rows.lm_len_rep_flat, Nat.mul_comm]; exact hz), rfl, q _ I.fresh⟩
def rMulC : R2 := fun x y H Q => ∃ (c : Nat) (n : Int), x = .str (SX.S [c]) ∧ y = .int n ∧ -(2 ^ 63) ≤ n ∧ n ≤ 16777216 ∧ Q (.str (SX.S (List.replicate n.toNat c))) H
theorem op_mulC {X : Cx} : OpR X (binaryOp .Mult) rMulC := by
  intro pins s σ H x y v u Q I rx ry h
  obtain ⟨c, n, rfl, rfl, h1, h2, q⟩ := h
  obtain ⟨t, rfl⟩ := rx
  obtain ⟨t', rfl⟩ := ry
  have hx : (SX.S [c]).length = 1 := by rw [SX.S_len]; rfl
  refine SB.mul ⟨by simp; omega, fun a b => ?_, fun a b => ?_⟩ fun t' k => ⟨.str _, H, I.tok _, ⟨_, rfl⟩, ?_⟩
  · rw [hx]
    have : (2 ^ 63 - 1) / n ≥ 1 := by
      refine (Int.le_ediv_iff_mul_le (by omega)).mpr ?_
      omega
    omega
  · rw [hx, Nat.one_mul]
    unfold Builtin.Str.tooLong
    simp [sizeLine_eq]
    omega
  · have e : Txt.mul (SX.S [c]) n = SX.S (List.replicate n.toNat c) := TL.ext_tl (PyProof.Rows.mul_one_list c n)
    rw [e]
    exact q
def mulD : D → D → Option D
  | .int a, .int b => if (-18446744073709551616 < a ∧ a < 18446744073709551616) ∨ (-18446744073709551616 < b ∧ b < 18446744073709551616) then some (.int (a * b)) else none
  | .str [c], .int n => if -9223372036854775808 ≤ n ∧ n ≤ 16777216 then some (.str (List.replicate n.toNat c)) else none
  | .lst ds, .int n => if -9223372036854775808 ≤ n ∧ n < 9223372036854775808 ∧ okN (ds.length * n.toNat) = true then some (.lst (List.replicate n.toNat ds).flatten) else none
  | _, _ => none
theorem RepL.reps {W : Wd} {ι : List Addr} {H : Hp} {ds : List D} {xs : List V} (h : RepL W ι H ds xs) : ∀ n : Nat, RepL W ι H (List.replicate n ds).flatten (List.replicate n xs).flatten
  | 0 => by simp; exact .nil
  | n + 1 => by
    rw [List.replicate_succ, List.replicate_succ, List.flatten_cons, List.flatten_cons]
    exact h.append (h.reps n)
theorem mulN {W : Wd} : BinN W .Mult mulD := fun X ad => by
  refine ⟨_, op_mul.or (op_mulC.or op_repR), fun ι H x y v w d Q e rx ry k kk => ?_⟩
  unfold mulD at e
  split at e
  · split at e
    · rename_i h
      cases e
      exact .inl ⟨_, _, rrep_int rx, rrep_int ry, h.imp (fun h => ⟨by simpa using h.1, by simpa using h.2⟩) fun h => ⟨by simpa using h.1, by simpa using h.2⟩, k _ H (fun _ _ e => e) rfl rep_int⟩
    · cases e
  · split at e
    · rename_i h
      cases e
      refine .inr (.inl ⟨_, _, (rrep_str rx).1, rrep_int ry, by have := h.1; omega, h.2, k _ H (fun _ _ e => e) rfl (rep_str ?_)⟩)
      rw [List.length_replicate, sizeLine_eq]
      omega
    · cases e
  · rename_i ds n
    split at e
    · rename_i h
      cases e
      obtain ⟨la, p, xs, rfl, hx, rl⟩ := rrep_lst rx
      have hz : xs.length * n.toNat ≤ sizeLine := by rw [← rl.length]; exact okN_le h.2.2
      refine .inr (.inr ⟨_, _, xs, rfl, rrep_int ry, ad.k ▸ hx, by have := h.1; omega, by have := h.2.1; omega, hz, fun q hq => ?_⟩)
      exact kk _ q _ rfl hq (by rw [PyProof.Rows.lm_len_rep_flat, Nat.mul_comm]; exact okN_le h.2.2) (rl.reps _)
    · cases e
  · cases e
/-! ### data as the library's data -/
mutual
def toPy : D → PyData
  | .non => .none
  | .bl b => .bool b
  | .int i => .int i
  | .str s => .str (SX.S s)
  | .lst ds => .list (toPyL ds)
  | .tup ds => .tuple (toPyL ds)
  | _ => .none
def toPyL : List D → List PyData
  | [] => []
  | d :: ds => toPy d :: toPyL ds
end
mutual
def isD : D → Bool
  | .non => true
  | .bl _ => true
  | .int _ => true
  | .str _ => true
  | .lst ds => isDL ds
  | .tup ds => isDL ds
  | _ => false
def isDL : List D → Bool
  | [] => true
  | d :: ds => isD d && isDL ds
end
mutual
theorem rep_dp {W : Wd} {ι : List Addr} {H : Hp} : ∀ (d : D) {v : V}, Rep W ι H d v → isD d = true → Dp W.K H v (toPy d)
  | .non, v, r, _ => by unfold Rep at r; subst r; exact .non
  | .bl b, v, r, _ => by unfold Rep at r; subst r; exact .bl b
  | .int i, v, r, _ => by unfold Rep at r; subst r; exact .int i
  | .str s, v, r, _ => by unfold Rep at r; rw [r.1]; exact .str _
  | .lst ds, v, r, h => by
    unfold Rep at r
    obtain ⟨_, a, xs, rfl, f, rl⟩ := r
    unfold isD at h
    exact .lst f.sq (repL_dp ds rl h)
  | .tup ds, v, r, h => by
    unfold Rep at r
    obtain ⟨_, a, xs, rfl, f, rl⟩ := r
    unfold isD at h
    exact .tup f (repL_dp ds rl h)
  | .ins _ _, _, _, h => by cases h
  | .han _, _, _, h => by cases h
  | .bor _, _, _, h => by cases h
  | .brw _, _, _, h => by cases h
  | .fn _, _, _, h => by cases h
theorem repL_dp {W : Wd} {ι : List Addr} {H : Hp} : ∀ (ds : List D) {vs : List V}, RepL W ι H ds vs → isDL ds = true → DpAll W.K H vs (toPyL ds)
  | [], _, r, _ => by unfold RepL at r; subst r; exact .nil
  | d :: ds, _, r, h => by
    unfold RepL at r
    obtain ⟨v, r', rfl, p, r1, r2⟩ := r
    unfold isDL at h
    rw [Bool.and_eq_true] at h
    exact .cons (rep_dp d r1 h.1) (repL_dp ds r2 h.2)
end
theorem rrep_dp {W : Wd} {ι : List Addr} {H : Hp} {d : D} {v : V} (r : RRep W ι H d v) (h : isD d = true) : Dp W.K H v (toPy d) := by
  cases d with
  | lst ds =>
    obtain ⟨_, a, xs, rfl, f, rl⟩ := rrep_lst r
    unfold isD at h
    exact .lst f.sq (repL_dp ds rl h)
  | brw _ => cases h
  | bor _ => cases h
  | ins _ _ => cases h
  | han _ => cases h
  | fn _ => cases h
  | _ => exact rep_dp _ r.2 h
/-- data of depth at most n -/
def dpt : Nat → D → Bool
  | _, .non => true
  | _, .bl _ => true
  | _, .int _ => true
  | _, .str _ => true
  | n + 1, .lst ds => ds.all (dpt n)
  | n + 1, .tup ds => ds.all (dpt n)
  | _, _ => false
mutual
/-- == -/
def eqB : D → D → Bool
  | .non, y => (match y with | .non => true | _ => false)
  | .bl a, y => (match y with | .bl b => a == b | .int j => (if a then 1 else 0) == j | _ => false)
  | .int i, y => (match y with | .bl b => i == (if b then 1 else 0) | .int j => decide (i = j) | _ => false)
  | .str a, y => (match y with | .str b => decide (a = b) | _ => false)
  | .lst xs, y => (match y with | .lst ys => eqBL xs ys | _ => false)
  | .tup xs, y => (match y with | .tup ys => eqBL xs ys | _ => false)
  | _, _ => false
def eqBL : List D → List D → Bool
  | [], ys => (match ys with | [] => true | _ => false)
  | x :: xs, ys => (match ys with | y :: r => eqB x y && eqBL xs r | _ => false)
end
mutual
theorem eqB_py : ∀ x y : D, isD x = true → isD y = true → PyData.eqv (toPy x) (toPy y) = eqB x y
  | .non, y, _, hy => by cases y <;> first | rfl | cases hy
  | .bl a, y, _, hy => by cases y <;> first | rfl | cases hy
  | .int a, y, _, hy => by cases y <;> first | rfl | cases hy
  | .str a, y, _, hy => by
    cases y with
    | str b => show (SX.S a == SX.S b) = decide (a = b); exact SX.S_beq_eq
    | non => rfl
    | bl _ => rfl
    | int _ => rfl
    | lst _ => rfl
    | tup _ => rfl
    | _ => cases hy
  | .lst xs, y, hx, hy => by
    cases y with
    | lst ys => exact eqBL_py xs ys (by unfold isD at hx; exact hx) (by unfold isD at hy; exact hy)
    | non => rfl
    | bl _ => rfl
    | int _ => rfl
    | str _ => rfl
    | tup _ => rfl
    | _ => cases hy
  | .tup xs, y, hx, hy => by
    cases y with
    | tup ys => exact eqBL_py xs ys (by unfold isD at hx; exact hx) (by unfold isD at hy; exact hy)
    | non => rfl
    | bl _ => rfl
    | int _ => rfl
    | str _ => rfl
    | lst _ => rfl
    | _ => cases hy
  | .ins _ _, _, hx, _ => by cases hx
  | .han _, _, hx, _ => by cases hx
  | .bor _, _, hx, _ => by cases hx
  | .brw _, _, hx, _ => by cases hx
  | .fn _, _, hx, _ => by cases hx
theorem eqBL_py : ∀ xs ys : List D, isDL xs = true → isDL ys = true → PyData.eqvAll (toPyL xs) (toPyL ys) = eqBL xs ys
  | [], ys, _, hy => by cases ys <;> rfl
  | x :: xs, ys, hx, hy => by
    cases ys with
    | nil => rfl
    | cons y r =>
      unfold isDL at hx hy
      rw [Bool.and_eq_true] at hx hy
      show (PyData.eqv (toPy x) (toPy y) && PyData.eqvAll (toPyL xs) (toPyL r)) = (eqB x y && eqBL xs r)
      rw [eqB_py x y hx.1 hy.1, eqBL_py xs r hx.2 hy.2]
end
mutual
theorem plain_py : ∀ d : D, (toPy d).plain = true
  | .non => rfl
  | .bl _ => rfl
  | .int _ => rfl
  | .str _ => rfl
  | .lst ds => by unfold toPy; exact plainL_py ds
  | .tup ds => by unfold toPy; exact plainL_py ds
  | .ins _ _ => rfl
  | .han _ => rfl
  | .bor _ => rfl
  | .brw _ => rfl
  | .fn _ => rfl
theorem plainL_py : ∀ ds : List D, PyData.plainAll (toPyL ds) = true
  | [] => rfl
  | d :: ds => by
    show ((toPy d).plain && PyData.plainAll (toPyL ds)) = true
    rw [plain_py d, plainL_py ds]; rfl
end
theorem dptL {n : Nat} (ih : ∀ d, dpt n d = true → isD d = true ∧ (toPy d).depth ≤ n) : ∀ ds : List D, ds.all (dpt n) = true → isDL ds = true ∧ PyData.depthAll (toPyL ds) ≤ n
  | [], _ => ⟨rfl, Nat.zero_le _⟩
  | d :: ds, h => by
    rw [List.all_cons, Bool.and_eq_true] at h
    obtain ⟨a1, a2⟩ := ih d h.1
    obtain ⟨b1, b2⟩ := dptL ih ds h.2
    refine ⟨by unfold isDL; rw [a1, b1]; rfl, ?_⟩
    show max (toPy d).depth (PyData.depthAll (toPyL ds)) ≤ n
    omega
theorem dpt_ok : ∀ (n : Nat) (d : D), dpt n d = true → isD d = true ∧ (toPy d).depth ≤ n
  | n, .non, _ => ⟨rfl, Nat.zero_le _⟩
  | n, .bl _, _ => ⟨rfl, Nat.zero_le _⟩
  | n, .int _, _ => ⟨rfl, Nat.zero_le _⟩
  | n, .str _, _ => ⟨rfl, Nat.zero_le _⟩
  | 0, .lst _, h => by cases h
  | 0, .tup _, h => by cases h
  | n + 1, .lst ds, h => by
    obtain ⟨a, b⟩ := dptL (dpt_ok n) ds h
    refine ⟨by unfold isD; exact a, ?_⟩
    unfold toPy
    show PyData.depthAll (toPyL ds) + 1 ≤ n + 1
    omega
  | n + 1, .tup ds, h => by
    obtain ⟨a, b⟩ := dptL (dpt_ok n) ds h
    refine ⟨by unfold isD; exact a, ?_⟩
    unfold toPy
    show PyData.depthAll (toPyL ds) + 1 ≤ n + 1
    omega
  | 0, .ins _ _, h => by cases h
  | 0, .han _, h => by cases h
  | 0, .bor _, h => by cases h
  | 0, .brw _, h => by cases h
  | 0, .fn _, h => by cases h
  | _ + 1, .ins _ _, h => by cases h
  | _ + 1, .han _, h => by cases h
  | _ + 1, .bor _, h => by cases h
  | _ + 1, .brw _, h => by cases h
  | _ + 1, .fn _, h => by cases h
/-- data that can be compared -/
def shp (d : D) : Bool := dpt 32 d
/-! ### == != < <= > >= in is -/
def eqD (x y : D) : Option D := if shp x && shp y then some (.bl (eqB x y)) else none
theorem eqD_of {x y d : D} (e : eqD x y = some d) : shp x = true ∧ shp y = true ∧ d = .bl (PyData.eqv (toPy x) (toPy y)) := by
  unfold eqD at e
  split at e
  · rename_i h
    rw [Bool.and_eq_true] at h
    cases e
    exact ⟨h.1, h.2, by rw [eqB_py x y (dpt_ok _ _ h.1).1 (dpt_ok _ _ h.2).1]⟩
  · cases e
theorem shp_of {W : Wd} {ι : List Addr} {H : Hp} {d : D} {v : V} (r : RRep W ι H d v) (h : shp d = true) : Dp W.K H v (toPy d) ∧ (toPy d).depth ≤ 32 := ⟨rrep_dp r (dpt_ok _ _ h).1, (dpt_ok _ _ h).2⟩
theorem Adm.un {W : Wd} {X : Cx} (a : Adm W X) : X.A.units + 65 < cLine := by have := a.room.un; omega
def rEqP (K : PySem.W.Frag) (neg : Bool) : R2 := fun x y H Q => ∃ d e, Dp K H x d ∧ Dp K H y e ∧ d.plain = true ∧ e.plain = true ∧ d.depth ≤ 32 ∧ Q (.bl (neg ^^ PyData.eqv d e)) H
theorem op_eqP {X : Cx} (hu : X.A.units + 65 < cLine) : OpR X (compareOp .Eq) (rEqP X.K false) := by
  intro pins s σ H x y v u Q I rx ry h
  obtain ⟨d, e, hd, he, sd, se, hm, q⟩ := h
  obtain ⟨as, r1⟩ := Dp.reads I d x v hd rx
  obtain ⟨bs, r2⟩ := Dp.reads I e y u he ry
  exact SeqAt.eq_plain r1 r2 sd se (by omega) ⟨.bl _, H, I, rfl, by simpa using q⟩
theorem op_neP {X : Cx} (hu : X.A.units + 65 < cLine) : OpR X (compareOp .NotEq) (rEqP X.K true) := by
  intro pins s σ H x y v u Q I rx ry h
  obtain ⟨d, e, hd, he, sd, se, hm, q⟩ := h
  obtain ⟨as, r1⟩ := Dp.reads I d x v hd rx
  obtain ⟨bs, r2⟩ := Dp.reads I e y u he ry
  exact SeqAt.ne_plain r1 r2 sd se (by omega) ⟨.bl _, H, I, rfl, by simpa using q⟩
theorem eqN {W : Wd} : CmpN W .Eq eqD := fun X ad => by
  refine ⟨_, op_eqP ad.un, fun ι H x y v w d Q e rx ry k => ?_⟩
  obtain ⟨h1, h2, rfl⟩ := eqD_of e
  obtain ⟨a1, a2⟩ := shp_of rx h1
  obtain ⟨b1, b2⟩ := shp_of ry h2
  exact ⟨_, _, ad.k ▸ a1, ad.k ▸ b1, plain_py _, plain_py _, a2, by simpa using k _ H (fun _ _ e => e) rfl rep_bl'⟩
def negB : D → Option D
  | .bl b => some (.bl (!b))
  | _ => none
def neD (x y : D) : Option D := (eqD x y).bind negB
theorem neN {W : Wd} : CmpN W .NotEq neD := fun X ad => by
  refine ⟨_, op_neP ad.un, fun ι H x y v w d Q e rx ry k => ?_⟩
  unfold neD at e
  cases e1 : eqD x y with
  | none => rw [e1] at e; cases e
  | some d1 =>
    rw [e1, Option.bind_some] at e
    obtain ⟨h1, h2, rfl⟩ := eqD_of e1
    cases e
    obtain ⟨a1, a2⟩ := shp_of rx h1
    obtain ⟨b1, b2⟩ := shp_of ry h2
    exact ⟨_, _, ad.k ▸ a1, ad.k ▸ b1, plain_py _, plain_py _, a2, by simpa using k _ H (fun _ _ e => e) rfl rep_bl'⟩
def ltD : D → D → Option D
  | .int a, .int b => some (.bl (decide (a < b)))
  | .str a, .str b => some (.bl (decide (a < b)))
  | _, _ => none
theorem ltN {W : Wd} : CmpN W .Lt ltD := fun X ad => by
  refine ⟨_, op_lt.or op_lt_str, fun ι H x y v w d Q e rx ry k => ?_⟩
  unfold ltD at e
  split at e
  · cases e; exact .inl ⟨_, _, rrep_int rx, rrep_int ry, k _ H (fun _ _ e => e) rfl rep_bl'⟩
  · cases e; exact .inr ⟨_, _, (rrep_str rx).1, (rrep_str ry).1, k _ H (fun _ _ e => e) rfl rep_bl'⟩
  · cases e
def leD : D → D → Option D
  | .int a, .int b => some (.bl (decide (a ≤ b)))
  | _, _ => none
theorem leN {W : Wd} : CmpN W .LtE leD := fun X ad => by
  refine ⟨_, op_le, fun ι H x y v w d Q e rx ry k => ?_⟩
  unfold leD at e
  split at e
  · cases e; exact ⟨_, _, rrep_int rx, rrep_int ry, k _ H (fun _ _ e => e) rfl rep_bl'⟩
  · cases e
def gtD : D → D → Option D
  | .int a, .int b => some (.bl (decide (b < a)))
  | _, _ => none
theorem gtN {W : Wd} : CmpN W .Gt gtD := fun X ad => by
  refine ⟨_, op_gt, fun ι H x y v w d Q e rx ry k => ?_⟩
  unfold gtD at e
  split at e
  · cases e; exact ⟨_, _, rrep_int rx, rrep_int ry, k _ H (fun _ _ e => e) rfl rep_bl'⟩
  · cases e
def geD : D → D → Option D
  | .int a, .int b => some (.bl (decide (b ≤ a)))
  | _, _ => none
theorem geN {W : Wd} : CmpN W .GtE geD := fun X ad => by
  refine ⟨_, op_ge, fun ι H x y v w d Q e rx ry k => ?_⟩
  unfold geD at e
  split at e
  · cases e; exact ⟨_, _, rrep_int rx, rrep_int ry, k _ H (fun _ _ e => e) rfl rep_bl'⟩
  · cases e
def isNonD : D → Bool
  | .non => true
  | _ => false
def isD2 : D → D → Option D
  | x, .non => some (.bl (isNonD x))
  | _, _ => none
theorem isNon_v {W : Wd} {ι : List Addr} {H : Hp} {d : D} {v : V} (r : RRep W ι H d v) : decide (v = .non) = isNonD d := by
  cases d with
  | non => rw [rrep_non r]; rfl
  | bl b => rw [rrep_bl r]; rfl
  | int i => rw [rrep_int r]; rfl
  | str s => rw [(rrep_str r).1]; rfl
  | lst l => obtain ⟨_, a, xs, rfl, _⟩ := rrep_lst r; rfl
  | tup l => obtain ⟨_, a, xs, rfl, _⟩ := rrep_tup r; rfl
  | ins c fs => obtain ⟨_, r⟩ := r; unfold Rep at r; obtain ⟨a, _, _, _, rfl, _⟩ := r; rfl
  | han n => obtain ⟨_, r⟩ := r; unfold Rep at r; obtain ⟨a, _, rfl⟩ := r; rfl
  | bor _ => obtain ⟨h, _⟩ := r; cases h
  | brw _ => obtain ⟨h, _⟩ := r; cases h
  | fn _ => obtain ⟨_, r⟩ := r; unfold Rep at r; obtain ⟨a, _, rfl⟩ := r; rfl
theorem isN {W : Wd} : CmpN W .Is isD2 := fun X ad => by
  refine ⟨_, op_isN, fun ι H x y v w d Q e rx ry k => ?_⟩
  unfold isD2 at e
  split at e
  · cases e
    refine ⟨rrep_non ry, ?_⟩
    rw [isNon_v rx]
    exact k _ H (fun _ _ e => e) rfl rep_bl'
  · cases e
def isnotD (x y : D) : Option D := (isD2 x y).bind negB
theorem isnotN {W : Wd} : CmpN W .IsNot isnotD := fun X ad => by
  refine ⟨_, op_notN, fun ι H x y v w d Q e rx ry k => ?_⟩
  unfold isnotD isD2 at e
  split at e
  · cases e
    refine ⟨rrep_non ry, ?_⟩
    rw [isNon_v rx]
    exact k _ H (fun _ _ e => e) rfl rep_bl'
  · cases e
end DE
set_option Elab.async false
set_option linter.all false
set_option maxRecDepth 100000
set_option maxHeartbeats 4000000
/-! DE14: in, places, parts, built-ins, methods. -/
namespace DE
open PySem PySem.Spec L2
theorem any_toPyL {p : PyData → Bool} : ∀ ds : List D, (toPyL ds).any p = ds.any fun z => p (toPy z)
  | [] => rfl
  | d :: ds => by
    show (p (toPy d) || (toPyL ds).any p) = _
    rw [any_toPyL ds, List.any_cons]
theorem countP_toPyL {p : PyData → Bool} : ∀ ds : List D, (toPyL ds).countP p = ds.countP fun z => p (toPy z)
  | [] => rfl
  | d :: ds => by
    show (toPy d :: toPyL ds).countP p = _
    rw [List.countP_cons, List.countP_cons, countP_toPyL ds]
theorem mem_isD {ds : List D} (h : isDL ds = true) : ∀ z ∈ ds, isD z = true := by
  induction ds with
  | nil => intro z hz; cases hz
  | cons d ds ih =>
    unfold isDL at h
    rw [Bool.and_eq_true] at h
    intro z hz
    rcases List.mem_cons.mp hz with rfl | hz
    · exact h.1
    · exact ih h.2 z hz
/-- whether x is among ds -/
def memD (x : D) (ds : List D) : Bool := ds.any fun z => eqB z x
theorem memD_py {x : D} {ds : List D} (hx : isD x = true) (hd : isDL ds = true) : ((toPyL ds).any fun z => PyData.eqv z (toPy x)) = memD x ds := by
  rw [any_toPyL]
  unfold memD
  have h := mem_isD hd
  clear hd
  induction ds with
  | nil => rfl
  | cons z r ih =>
    rw [List.any_cons, List.any_cons, eqB_py z x (h z (List.mem_cons_self ..)) hx, ih fun y hy => h y (List.mem_cons_of_mem _ hy)]
def inD : D → D → Option D
  | x, .str s => (match x with
    | .str [c] => some (.bl (decide (c ∈ s)))
    | _ => none)
  | x, .lst ds => if shp x && ds.all shp then some (.bl (memD x ds)) else none
  | x, .tup ds => if shp x && ds.all shp then some (.bl (memD x ds)) else none
  | _, _ => none
def rInAll (K : PySem.W.Frag) (neg : Bool) : R2 := fun x y H Q => (∃ (c : Nat) (z : Str), x = .str ⟨#[c]⟩ ∧ y = .str z ∧ Q (.bl (neg ^^ decide (c ∈ z.cps.toList))) H) ∨
  (∃ d ds, Dp K H x d ∧ (Dp K H y (.list ds) ∨ Dp K H y (.tuple ds)) ∧ d.plain = true ∧ PyData.plainAll ds = true ∧ d.depth ≤ 32 ∧ Q (.bl (neg ^^ ds.any fun z => PyData.eqv z d)) H)
theorem in_all {W : Wd} {K : PySem.W.Frag} (hK : K = W.K) {neg : Bool} {ι : List Addr} {H : Hp} {x y d : D} {v w : V} {Q : VK} (e : inD x y = some d) (rx : RRep W ι H x v) (ry : RRep W ι H y w) (k : ∀ b, d = .bl b → Q (.bl (neg ^^ b)) H) : rInAll K neg v w H Q := by
  subst hK
  unfold inD at e
  split at e
  · split at e
    · cases e
      exact .inl ⟨_, _, (rrep_str rx).1, (rrep_str ry).1, k _ rfl⟩
    · cases e
  · rename_i ds
    split at e
    · rename_i h
      rw [Bool.and_eq_true] at h
      cases e
      obtain ⟨a1, a2⟩ := shp_of rx h.1
      obtain ⟨b1, _⟩ := dptL (dpt_ok 32) ds h.2
      obtain ⟨la, p, xs, rfl, hx, rl⟩ := rrep_lst ry
      refine .inr ⟨_, _, a1, .inl (.lst hx.sq (repL_dp ds rl b1)), plain_py _, plainL_py _, a2, ?_⟩
      rw [memD_py (dpt_ok _ _ h.1).1 b1]
      exact k _ rfl
    · cases e
  · rename_i ds
    split at e
    · rename_i h
      rw [Bool.and_eq_true] at h
      cases e
      obtain ⟨a1, a2⟩ := shp_of rx h.1
      obtain ⟨b1, _⟩ := dptL (dpt_ok 32) ds h.2
      obtain ⟨la, p, xs, rfl, hx, rl⟩ := rrep_tup ry
      refine .inr ⟨_, _, a1, .inr (.tup hx (repL_dp ds rl b1)), plain_py _, plainL_py _, a2, ?_⟩
      rw [memD_py (dpt_ok _ _ h.1).1 b1]
      exact k _ rfl
    · cases e
  · cases e
theorem op_inAll {X : Cx} (hu : X.A.units + 65 < cLine) : OpR X (compareOp .In) (rInAll X.K false) := by
  intro pins s σ H x y v u Q I rx ry h
  rcases h with ⟨c, z, h1, h2, q⟩ | ⟨d, ds, h1, h2, h3, h4, h5, q⟩
  · exact op_in_sign pins s σ H x y v u Q I rx ry ⟨c, z, h1, h2, by simpa using q⟩
  · obtain ⟨as, r1⟩ := Dp.reads I d x v h1 rx
    rcases h2 with h2 | h2
    · obtain ⟨bs, r2⟩ := Dp.reads I _ y u h2 ry
      exact SeqAt.in_list_data r2 r1 h4 h3 (by omega) ⟨.bl _, H, I, rfl, by simpa using q⟩
    · obtain ⟨bs, r2⟩ := Dp.reads I _ y u h2 ry
      exact SeqAt.in_tuple_data r2 r1 h4 h3 (by omega) ⟨.bl _, H, I, rfl, by simpa using q⟩
theorem op_ninAll {X : Cx} (hu : X.A.units + 65 < cLine) : OpR X (compareOp .NotIn) (rInAll X.K true) := by
  intro pins s σ H x y v u Q I rx ry h
  rcases h with ⟨c, z, h1, h2, q⟩ | ⟨d, ds, h1, h2, h3, h4, h5, q⟩
  · exact op_notIn_sign pins s σ H x y v u Q I rx ry ⟨c, z, h1, h2, by simpa using q⟩
  · obtain ⟨as, r1⟩ := Dp.reads I d x v h1 rx
    rcases h2 with h2 | h2
    · obtain ⟨bs, r2⟩ := Dp.reads I _ y u h2 ry
      exact SeqAt.notIn_list_data r2 r1 h4 h3 (by omega) ⟨.bl _, H, I, rfl, by simpa using q⟩
    · obtain ⟨bs, r2⟩ := Dp.reads I _ y u h2 ry
      exact SeqAt.notIn_tuple_data r2 r1 h4 h3 (by omega) ⟨.bl _, H, I, rfl, by simpa using q⟩
theorem inN {W : Wd} : CmpN W .In inD := fun X ad => ⟨_, op_inAll ad.un, fun ι H x y v w d Q e rx ry k => in_all ad.k e rx ry fun b eb => by subst eb; simpa using k _ H (fun _ _ e => e) rfl rep_bl'⟩
def ninD (x y : D) : Option D := (inD x y).bind negB
theorem ninN {W : Wd} : CmpN W .NotIn ninD := fun X ad => by
  refine ⟨_, op_ninAll ad.un, fun ι H x y v w d Q e rx ry k => ?_⟩
  unfold ninD at e
  cases e1 : inD x y with
  | none => rw [e1] at e; cases e
  | some d1 =>
    rw [e1, Option.bind_some] at e
    refine in_all ad.k e1 rx ry fun b eb => ?_
    subst eb
    cases e
    simpa using k _ H (fun _ _ e => e) rfl rep_bl'
/-! ### places -/
def ixD : D → D → Option D
  | .lst ds, .int i => (ixN ds.length i).bind fun j => ds[j]?
  | .tup ds, .int i => (ixN ds.length i).bind fun j => ds[j]?
  | .str s, .int i => (ixN s.length i).bind fun j => (s[j]?).map fun c => .str [c]
  | _, _ => none
theorem ixN1 {W : Wd} : IxN W ixD := fun X ad => by
  refine ⟨_, ix_seq, fun ι H x y v w d Q e rx ry k kk => ?_⟩
  unfold ixD at e
  split at e
  · rename_i ds i
    cases e1 : ixN ds.length i with
    | none => rw [e1] at e; cases e
    | some j =>
      rw [e1, Option.bind_some] at e
      obtain ⟨la, p, xs, rfl, hx, rl⟩ := rrep_lst rx
      obtain ⟨u, hu, ru, pu⟩ := rl.get e
      exact .inl ⟨p, xs, i, u, rfl, rrep_int ry, ad.k ▸ hx.sq, by unfold atI; rw [← rl.length, e1]; exact hu, k u H (fun _ _ e => e) pu ru⟩
  · rename_i ds i
    cases e1 : ixN ds.length i with
    | none => rw [e1] at e; cases e
    | some j =>
      rw [e1, Option.bind_some] at e
      obtain ⟨la, p, xs, rfl, hx, rl⟩ := rrep_tup rx
      obtain ⟨u, hu, ru, pu⟩ := rl.get e
      exact .inr (.inl ⟨p, xs, i, u, rfl, rrep_int ry, ad.k ▸ hx, by unfold atI; rw [← rl.length, e1]; exact hu, k u H (fun _ _ e => e) pu ru⟩)
  · rename_i s i
    cases e1 : ixN s.length i with
    | none => rw [e1] at e; cases e
    | some j =>
      rw [e1, Option.bind_some] at e
      cases e2 : s[j]? with
      | none => rw [e2] at e; cases e
      | some c =>
        rw [e2] at e
        cases e
        refine .inr (.inr ⟨SX.S s, i, c, (rrep_str rx).1, rrep_int ry, by rw [SX.S_len]; exact (rrep_str rx).2, ?_, k _ H (fun _ _ e => e) rfl (rep_str (s := [c]) (by rw [sizeLine_eq]; simp))⟩)
        show atI s i = some c
        unfold atI
        rw [e1]
        exact e2
  · cases e
/-! ### parts -/
def cutL {α : Type} (xs : List α) (lo hi : Option Int) : List α := (xs.drop (HT.sIx xs.length 0 lo)).take (HT.sIx xs.length xs.length hi - HT.sIx xs.length 0 lo)
theorem RepL.cut {W : Wd} {ι : List Addr} {H : Hp} {ds : List D} {xs : List V} (h : RepL W ι H ds xs) (lo hi : Option Int) : RepL W ι H (cutL ds lo hi) (cutV xs lo hi) := by
  unfold cutL cutV
  rw [h.length]
  exact (h.drop _).take _
theorem cutL_len {α : Type} (xs : List α) (lo hi : Option Int) : (cutL xs lo hi).length ≤ xs.length := by
  unfold cutL
  rw [List.length_take, List.length_drop]
  omega
def slD : D → Option Int → Option Int → Option D
  | .lst ds, lo, hi => some (.lst (cutL ds lo hi))
  | .tup ds, lo, hi => some (.tup (cutL ds lo hi))
  | .str s, lo, none => (match lo with
    | some i => if 0 ≤ i then some (.str (s.drop i.toNat)) else none
    | none => none)
  | .str s, none, some i => if 0 ≤ i then some (.str (s.take i.toNat)) else none
  | _, _, _ => none
theorem cut_all {α : Type} {xs : List α} {lo hi : Option Int} (h : HT.sIx xs.length 0 lo = 0 ∧ HT.sIx xs.length xs.length hi = xs.length) : cutL xs lo hi = xs := by
  unfold cutL
  rw [h.1, h.2]
  simp
theorem slN1 {W : Wd} : SlN W slD := fun X ad => by
  refine ⟨_, sl_list.or (sl_tupA.or C8.sl_txt), fun ι H x v lo hi d Q e rx k kk => ?_⟩
  unfold slD at e
  split at e
  · rename_i ds
    cases e
    obtain ⟨la, p, xs, rfl, hx, rl⟩ := rrep_lst rx
    exact .inl ⟨p, xs, rfl, ad.k ▸ hx.sq, fun q hq => kk _ q _ rfl hq (Nat.le_trans (cutL_len _ _ _) la) (rl.cut lo hi)⟩
  · rename_i ds
    cases e
    obtain ⟨la, p, xs, rfl, hx, rl⟩ := rrep_tup rx
    refine .inr (.inl ⟨p, xs, rfl, ad.k ▸ hx, fun h => ?_, fun _ q hq => ?_⟩)
    · rw [← rl.length] at h
      rw [cut_all h] at k
      exact k _ H (fun _ _ e => e) rfl (rep_tup la hx rl)
    · exact k _ _ (fun b o e => by rw [upd_ne (fun z => by rw [z, hq] at e; cases e)]; exact e) rfl (rep_tup (Nat.le_trans (cutL_len _ _ _) la) (SqT.of upd_same) ((rl.cut lo hi).kp (Kp.alloc hq)))
  · rename_i s
    split at e
    · rename_i i
      split at e
      · rename_i h
        cases e
        refine .inr (.inr ⟨SX.S s, (rrep_str rx).1, by rw [SX.S_len]; exact (rrep_str rx).2, ?_⟩)
        rw [SX.slice_from h]
        refine k _ H (fun _ _ e => e) rfl (rep_str ?_)
        have := (rrep_str rx).2
        rw [List.length_drop]
        omega
      · cases e
    · cases e
  · rename_i s i
    split at e
    · rename_i h
      cases e
      refine .inr (.inr ⟨SX.S s, (rrep_str rx).1, by rw [SX.S_len]; exact (rrep_str rx).2, ?_⟩)
      rw [SX.slice_to h]
      refine k _ H (fun _ _ e => e) rfl (rep_str ?_)
      have := (rrep_str rx).2
      rw [List.length_take]
      omega
    · cases e
  · cases e
end DE
set_option Elab.async false
set_option linter.all false
set_option maxRecDepth 100000
set_option maxHeartbeats 4000000
/-! DE15: built-ins, methods. -/
namespace DE
open PySem PySem.Spec L2
section
variable {W : Wd} {ι : List Addr} {H : Hp}
theorem bcOk1 {r : List V → Hp → VK → Prop} {f : List D → Option D} (h : ∀ ι H x v d Q, f [x] = some d → RRep W ι H x v → (∀ u H', (∀ b o, H b = some o → H' b = some o) → d.plain = true → Rep W ι H' d u → Q u H') → r [v] H Q)
    (h1 : ∀ l, l.length ≠ 1 → f l = none) : BcOk W r f := by
  intro ι H ds vs d Q e rl k
  cases rl with
  | nil => rw [h1 [] (by simp)] at e; cases e
  | cons r1 rt =>
    cases rt with
    | nil => exact h ι H _ _ d Q e r1 k
    | cons r2 rt => rw [h1 _ (by simp)] at e; cases e
theorem bcOk2 {r : List V → Hp → VK → Prop} {f : List D → Option D} (h : ∀ ι H x y v w d Q, f [x, y] = some d → RRep W ι H x v → RRep W ι H y w → (∀ u H', (∀ b o, H b = some o → H' b = some o) → d.plain = true → Rep W ι H' d u → Q u H') → r [v, w] H Q)
    (h1 : ∀ l, l.length ≠ 2 → f l = none) : BcOk W r f := by
  intro ι H ds vs d Q e rl k
  cases rl with
  | nil => rw [h1 [] (by simp)] at e; cases e
  | cons r1 rt =>
    cases rt with
    | nil => rw [h1 _ (by simp)] at e; cases e
    | cons r2 rt =>
      cases rt with
      | nil => exact h ι H _ _ _ _ d Q e r1 r2 k
      | cons _ _ => rw [h1 _ (by simp)] at e; cases e
end
/-- a function of one, of two arguments -/
def f1 (g : D → Option D) : List D → Option D
  | [x] => g x
  | _ => none
def f2 (g : D → D → Option D) : List D → Option D
  | [x, y] => g x y
  | _ => none
theorem f1_ne {g : D → Option D} (l : List D) (h : l.length ≠ 1) : f1 g l = none := by
  unfold f1
  split
  · exact absurd rfl h
  · rfl
theorem f2_ne {g : D → D → Option D} (l : List D) (h : l.length ≠ 2) : f2 g l = none := by
  unfold f2
  split
  · exact absurd rfl h
  · rfl
def lenD : D → Option D
  | .lst ds => some (.int ds.length)
  | .tup ds => some (.int ds.length)
  | .str s => some (.int s.length)
  | _ => none
theorem lenN {W : Wd} : BcN W "len" (f1 lenD) := ⟨by decide, _, boot_len, fun X ad => ⟨_, call_len, bcOk1 (fun ι H x v d Q e r k => by
  show ∃ y n, [v] = [y] ∧ LenV X.K y H n ∧ Q (.int n) H
  replace e : lenD x = some d := e
  unfold lenD at e
  split at e
  · cases e
    obtain ⟨la, p, xs, rfl, hx, rl⟩ := rrep_lst r
    exact ⟨_, _, rfl, .inl ⟨xs, ad.k ▸ hx.sq, rl.length⟩, k _ H (fun _ _ e => e) rfl rep_int⟩
  · cases e
    obtain ⟨la, p, xs, rfl, hx, rl⟩ := rrep_tup r
    exact ⟨_, _, rfl, .inr ⟨xs, ad.k ▸ hx, rl.length⟩, k _ H (fun _ _ e => e) rfl rep_int⟩
  · cases e
    obtain ⟨rfl, l⟩ := rrep_str r
    exact ⟨_, _, rfl, ⟨by rw [SX.S_len]; exact l, (SX.S_len _).symm⟩, k _ H (fun _ _ e => e) rfl rep_int⟩
  · cases e) f1_ne⟩⟩
/-! ### all, any -/
def bls : List D → Option (List Bool)
  | [] => some []
  | .bl b :: r => (bls r).map (b :: ·)
  | _ => none
theorem bls_map (bs : List Bool) : bls (bs.map D.bl) = some bs := by
  induction bs with
  | nil => rfl
  | cons b bs ih => show (bls (bs.map D.bl)).map (b :: ·) = _; rw [ih]; rfl
theorem bls_v {W : Wd} {ι : List Addr} {H : Hp} : ∀ {ds : List D} {bs : List Bool} {vs : List V}, bls ds = some bs → RepL W ι H ds vs → vs = bs.map V.bl
  | [], _, _, e, r => by cases e; unfold RepL at r; subst r; rfl
  | d :: ds, bs, _, e, r => by
    unfold RepL at r
    obtain ⟨v, us, rfl, p, r1, r2⟩ := r
    cases d with
    | bl b =>
      have e : (bls ds).map (b :: ·) = some bs := e
      cases e1 : bls ds with
      | none => rw [e1] at e; cases e
      | some l =>
        rw [e1] at e; cases e
        unfold Rep at r1
        rw [r1, bls_v e1 r2]
        rfl
    | _ => cases e
def allD : D → Option D
  | .lst ds => (bls ds).map fun bs => .bl (bs.all id)
  | _ => none
def anyD : D → Option D
  | .lst ds => (bls ds).map fun bs => .bl (bs.any id)
  | _ => none
theorem boot_all : bootBuiltins "all" = some (.builtin "all") := by decide +kernel
theorem boot_any : bootBuiltins "any" = some (.builtin "any") := by decide +kernel
theorem allN {W : Wd} : BcN W "all" (f1 allD) := ⟨by decide, _, boot_all, fun X ad => ⟨_, cr_all ad.calm, bcOk1 (fun ι H x v d Q e r k => by
  replace e : allD x = some d := e
  unfold allD at e
  split at e
  · rename_i ds
    obtain ⟨la, p, xs, rfl, hx, rl⟩ := rrep_lst r
    cases e1 : bls ds with
    | none => rw [e1] at e; cases e
    | some bs =>
      rw [e1] at e; cases e
      exact ⟨p, bs, rfl, by rw [← bls_v e1 rl]; exact ad.k ▸ hx.sq, k _ H (fun _ _ e => e) rfl rep_bl'⟩
  · cases e) f1_ne⟩⟩
theorem anyN {W : Wd} : BcN W "any" (f1 anyD) := ⟨by decide, _, boot_any, fun X ad => ⟨_, cr_any ad.calm, bcOk1 (fun ι H x v d Q e r k => by
  replace e : anyD x = some d := e
  unfold anyD at e
  split at e
  · rename_i ds
    obtain ⟨la, p, xs, rfl, hx, rl⟩ := rrep_lst r
    cases e1 : bls ds with
    | none => rw [e1] at e; cases e
    | some bs =>
      rw [e1] at e; cases e
      exact ⟨p, bs, rfl, by rw [← bls_v e1 rl]; exact ad.k ▸ hx.sq, k _ H (fun _ _ e => e) rfl rep_bl'⟩
  · cases e) f1_ne⟩⟩
/-! ### ints -/
def absD : D → Option D
  | .int i => some (.int (if i < 0 then -i else i))
  | _ => none
theorem boot_abs : bootBuiltins "abs" = some (.builtin "abs") := by decide +kernel
theorem absN {W : Wd} : BcN W "abs" (f1 absD) := ⟨by decide, _, boot_abs, fun X ad => ⟨_, call_abs, bcOk1 (fun ι H x v d Q e r k => by
  replace e : absD x = some d := e
  unfold absD at e
  split at e
  · cases e
    rw [rrep_int r]
    exact ⟨_, rfl, k _ H (fun _ _ e => e) rfl rep_int⟩
  · cases e) f1_ne⟩⟩
def max2D : D → D → Option D
  | .int i, .int j => some (.int (if j > i then j else i))
  | _, _ => none
def min2D : D → D → Option D
  | .int i, .int j => some (.int (if j < i then j else i))
  | _, _ => none
theorem boot_max : bootBuiltins "max" = some (.builtin "max") := by decide +kernel
theorem boot_min : bootBuiltins "min" = some (.builtin "min") := by decide +kernel
theorem max2N {W : Wd} : BcN W "max" (f2 max2D) := ⟨by decide, _, boot_max, fun X ad => ⟨_, call_max2 ad.calm, bcOk2 (fun ι H x y v w d Q e r r2 k => by
  replace e : max2D x y = some d := e
  unfold max2D at e
  split at e
  · cases e
    rw [rrep_int r, rrep_int r2]
    exact ⟨_, _, rfl, k _ H (fun _ _ e => e) rfl rep_int⟩
  · cases e) f2_ne⟩⟩
theorem min2N {W : Wd} : BcN W "min" (f2 min2D) := ⟨by decide, _, boot_min, fun X ad => ⟨_, call_min2 ad.calm, bcOk2 (fun ι H x y v w d Q e r r2 k => by
  replace e : min2D x y = some d := e
  unfold min2D at e
  split at e
  · cases e
    rw [rrep_int r, rrep_int r2]
    exact ⟨_, _, rfl, k _ H (fun _ _ e => e) rfl rep_int⟩
  · cases e) f2_ne⟩⟩
def intD : D → Option D
  | .int i => some (.int i)
  | .bl b => some (.int (if b then 1 else 0))
  | _ => none
theorem boot_int : bootBuiltins "int" = some (.type "int") := by decide +kernel
theorem intN {W : Wd} : BtN W "int" (f1 intD) := ⟨by decide, _, boot_int, fun X ad => ⟨_, call_int1, bcOk1 (fun ι H x v d Q e r k => by
  replace e : intD x = some d := e
  unfold intD at e
  split at e
  · cases e
    rw [rrep_int r]
    exact .inl ⟨_, rfl, k _ H (fun _ _ e => e) rfl rep_int⟩
  · cases e
    rw [rrep_bl r]
    exact .inr ⟨_, rfl, k _ H (fun _ _ e => e) rfl rep_int⟩
  · cases e) f1_ne⟩⟩
def divmodD : D → D → Option D
  | .int i, .int j => if 0 < j ∧ j < 1073741824 then some (.tup [.int (i / j), .int (i % j)]) else none
  | _, _ => none
theorem boot_divmod : bootBuiltins "divmod" = some (.builtin "divmod") := by decide +kernel
theorem divmodN {W : Wd} : BcN W "divmod" (f2 divmodD) := ⟨by decide, _, boot_divmod, fun X ad => ⟨_, call_divmod, bcOk2 (fun ι H x y v w d Q e r r2 k => by
  replace e : divmodD x y = some d := e
  unfold divmodD at e
  split at e
  · split at e
    · rename_i h
      cases e
      rw [rrep_int r, rrep_int r2]
      refine ⟨_, _, rfl, h, fun p hp => ?_⟩
      exact k _ _ (fun b o e => by rw [upd_ne (fun z => by rw [z, hp] at e; cases e)]; exact e) rfl (rep_tup (by rw [sizeLine_eq]; simp) (SqT.of upd_same) (.cons rfl rep_int (.cons rfl rep_int .nil)))
    · cases e
  · cases e) f2_ne⟩⟩
def intsD : List D → Option (List Int)
  | [] => some []
  | .int b :: r => (intsD r).map (b :: ·)
  | _ => none
theorem intsD_map (bs : List Int) : intsD (bs.map D.int) = some bs := by
  induction bs with
  | nil => rfl
  | cons b bs ih => show (intsD (bs.map D.int)).map (b :: ·) = _; rw [ih]; rfl
theorem intsD_v {W : Wd} {ι : List Addr} {H : Hp} : ∀ {ds : List D} {bs : List Int} {vs : List V}, intsD ds = some bs → RepL W ι H ds vs → vs = bs.map V.int
  | [], _, _, e, r => by cases e; unfold RepL at r; subst r; rfl
  | d :: ds, bs, _, e, r => by
    unfold RepL at r
    obtain ⟨v, us, rfl, p, r1, r2⟩ := r
    cases d with
    | int b =>
      have e : (intsD ds).map (b :: ·) = some bs := e
      cases e1 : intsD ds with
      | none => rw [e1] at e; cases e
      | some l =>
        rw [e1] at e; cases e
        unfold Rep at r1
        rw [r1, intsD_v e1 r2]
        rfl
    | _ => cases e
def sumD : D → Option D
  | .lst ds => (intsD ds).map fun ns => .int ns.sum
  | _ => none
theorem boot_sum : bootBuiltins "sum" = some (.builtin "sum") := by decide +kernel
theorem sumN {W : Wd} : BcN W "sum" (f1 sumD) := ⟨by decide, _, boot_sum, fun X ad => ⟨_, cr_sum ad.calm, bcOk1 (fun ι H x v d Q e r k => by
  replace e : sumD x = some d := e
  unfold sumD at e
  split at e
  · rename_i ds
    obtain ⟨la, p, xs, rfl, hx, rl⟩ := rrep_lst r
    cases e1 : intsD ds with
    | none => rw [e1] at e; cases e
    | some bs =>
      rw [e1] at e; cases e
      exact ⟨p, bs, rfl, by rw [← intsD_v e1 rl]; exact ad.k ▸ hx.sq, k _ H (fun _ _ e => e) rfl rep_int⟩
  · cases e) f1_ne⟩⟩
/-! ### list, tuple -/
def tupleD : D → Option D
  | .lst ds => some (.tup ds)
  | .tup ds => some (.tup ds)
  | _ => none
theorem boot_tuple : bootBuiltins "tuple" = some (.type "tuple") := by decide +kernel
theorem boot_list : bootBuiltins "list" = some (.type "list") := by decide +kernel
theorem tupleN {W : Wd} : BtN W "tuple" (f1 tupleD) := ⟨by decide, _, boot_tuple, fun X ad => ⟨_, call_tuple_of, bcOk1 (fun ι H x v d Q e r k => by
  replace e : tupleD x = some d := e
  unfold tupleD at e
  split at e
  · cases e
    obtain ⟨la, p, xs, rfl, hx, rl⟩ := rrep_lst r
    refine ⟨p, xs, rfl, .inl ⟨ad.k ▸ hx.sq, fun q hq => ?_⟩⟩
    exact k _ _ (fun b o e => by rw [upd_ne (fun z => by rw [z, hq] at e; cases e)]; exact e) rfl (rep_tup la (SqT.of upd_same) (rl.kp (Kp.alloc hq)))
  · cases e
    obtain ⟨la, p, xs, rfl, hx, rl⟩ := rrep_tup r
    exact ⟨p, xs, rfl, .inr ⟨ad.k ▸ hx, k _ H (fun _ _ e => e) rfl (rep_tup la hx rl)⟩⟩
  · cases e) f1_ne⟩⟩
def g1 (g : D → Option (List D)) : List D → Option (List D)
  | [x] => g x
  | _ => none
theorem blOk1 {W : Wd} {r : List V → Hp → VK → Prop} {g : D → Option (List D)} (h : ∀ ι H x v d Q, g x = some d → RRep W ι H x v → (∀ p xs, H p = none → d.length ≤ sizeLine → RepL W ι H d xs → Q (.ref p) (upd H p (.lst xs))) → r [v] H Q) : BlOk W r (g1 g) := by
  intro ι H ds vs d Q e rl k
  cases rl with
  | nil => cases e
  | cons r1 rt =>
    cases rt with
    | nil => exact h ι H _ _ d Q e r1 k
    | cons r2 rt => cases e
def listD : D → Option (List D)
  | .lst ds => some ds
  | .tup ds => some ds
  | _ => none
theorem listN {W : Wd} : BltN W "list" (g1 listD) := ⟨by decide, _, boot_list, fun X ad => ⟨_, call_list_of, blOk1 fun ι H x v d Q e r k => by
  unfold listD at e
  split at e
  · cases e
    obtain ⟨la, p, xs, rfl, hx, rl⟩ := rrep_lst r
    exact ⟨p, xs, rfl, .inl (ad.k ▸ hx.sq), fun l hl => k l xs hl la rl⟩
  · cases e
    obtain ⟨la, p, xs, rfl, hx, rl⟩ := rrep_tup r
    exact ⟨p, xs, rfl, .inr (ad.k ▸ hx), fun l hl => k l xs hl la rl⟩
  · cases e⟩⟩
/-! ### texts -/
def strsD : List D → Option (List (List Nat))
  | [] => some []
  | .str b :: r => (strsD r).map (b :: ·)
  | _ => none
theorem strsD_map (bs : List (List Nat)) : strsD (bs.map D.str) = some bs := by
  induction bs with
  | nil => rfl
  | cons b bs ih => show (strsD (bs.map D.str)).map (b :: ·) = _; rw [ih]; rfl
theorem strsD_v {W : Wd} {ι : List Addr} {H : Hp} : ∀ {ds : List D} {bs : List (List Nat)} {vs : List V}, strsD ds = some bs → RepL W ι H ds vs → vs = (bs.map SX.S).map V.str
  | [], _, _, e, r => by cases e; unfold RepL at r; subst r; rfl
  | d :: ds, bs, _, e, r => by
    unfold RepL at r
    obtain ⟨v, us, rfl, p, r1, r2⟩ := r
    cases d with
    | str b =>
      have e : (strsD ds).map (b :: ·) = some bs := e
      cases e1 : strsD ds with
      | none => rw [e1] at e; cases e
      | some l =>
        rw [e1] at e; cases e
        unfold Rep at r1
        rw [r1.1, strsD_v e1 r2]
        rfl
    | _ => cases e
theorem repL_strs {W : Wd} {ι : List Addr} {H : Hp} : ∀ {l : List (List Nat)}, (∀ s ∈ l, s.length ≤ sizeLine) → RepL W ι H (l.map D.str) ((l.map SX.S).map V.str)
  | [], _ => .nil
  | s :: l, h => .cons rfl (rep_str (h s (List.mem_cons_self ..))) (repL_strs fun t ht => h t (List.mem_cons_of_mem _ ht))
theorem mtO1 {W : Wd} {r : V → List V → Hp → VK → Prop} {f : D → D → Option D} (h : ∀ ι H x v y w d Q, f x y = some d → RRep W ι H x v → RRep W ι H y w → (∀ u H', (∀ b o, H b = some o → H' b = some o) → d.plain = true → Rep W ι H' d u → Q u H') →
    (∀ ds p xs, d = .lst ds → H p = none → ds.length ≤ sizeLine → RepL W ι H ds xs → Q (.ref p) (upd H p (.lst xs))) → r v [w] H Q) : MtO W r fun x ds => (match ds with | [y] => f x y | _ => none) := by
  intro ι H x v ds vs d Q e rx rl k kk
  cases rl with
  | nil => cases e
  | cons r1 rt =>
    cases rt with
    | nil => exact h ι H x v _ _ d Q e rx r1 k kk
    | cons r2 rt => cases e
/-- a method of one argument -/
def m1 (f : D → D → Option D) : D → List D → Option D := fun x ds => (match ds with | [y] => f x y | _ => none)
def okPieces (l : List (List Nat)) : Bool := l.all fun s => okN s.length
def splitD : D → D → Option D
  | .str a, .str b => if b != [] && b.all (· < 256) && okN (a.length + 2) && okPieces (TL.spl b 0 [] a) && okN (TL.spl b 0 [] a).length then some (.lst ((TL.spl b 0 [] a).map D.str)) else none
  | _, _ => none
theorem splitN {W : Wd} : MtN W "str" "split" (m1 splitD) := ⟨"str.split", PySem.F.plainAttrs_str, PySem.F.slot_str_split, PySem.F.type_str_split, fun X ad => ⟨_, mt_split, mtO1 fun ι H x v y w d Q e rx ry k kk => by
  unfold splitD at e
  split at e
  · rename_i a b
    split at e
    · rename_i h
      simp only [Bool.and_eq_true, bne_iff_ne, ne_eq] at h
      obtain ⟨⟨⟨⟨h1, h2⟩, h3⟩, h4⟩, h5⟩ := h
      cases e
      refine ⟨_, _, (rrep_str rx).1, by rw [(rrep_str ry).1], ?_, by rw [SX.S_len]; exact okN_le h3, ?_⟩
      · rw [SX.S_len]
        cases b with
        | nil => exact absurd rfl h1
        | cons _ _ => rfl
      · rw [SX.split_S h1 h2]
        intro p hp
        refine kk _ p _ rfl hp (by rw [List.length_map]; exact okN_le h5) (repL_strs fun s hs => ?_)
        unfold okPieces at h4
        rw [List.all_eq_true] at h4
        exact okN_le (h4 s hs)
    · cases e
  · cases e⟩⟩
def joinD : D → D → Option D
  | .str a, .lst ds => (strsD ds).bind fun ss => if okN ((ss.map (·.length)).sum + ss.length * a.length) && okN (TL.joinL a ss).length then some (.str (TL.joinL a ss)) else none
  | .str a, .tup ds => (strsD ds).bind fun ss => if okN ((ss.map (·.length)).sum + ss.length * a.length) && okN (TL.joinL a ss).length then some (.str (TL.joinL a ss)) else none
  | _, _ => none
theorem joinN {W : Wd} : MtN W "str" "join" (m1 joinD) := ⟨"str.join", PySem.F.plainAttrs_str, PySem.F.slot_str_join, PySem.F.type_str_join, fun X ad => ⟨_, mt_join, mtO1 fun ι H x v y w d Q e rx ry k kk => by
  unfold joinD at e
  split at e
  · rename_i a ds
    cases e1 : strsD ds with
    | none => rw [e1] at e; cases e
    | some ss =>
      rw [e1, Option.bind_some] at e
      split at e
      · rename_i h
        rw [Bool.and_eq_true] at h
        cases e
        obtain ⟨la, p, xs, rfl, hx, rl⟩ := rrep_lst ry
        refine ⟨_, p, ss.map SX.S, (rrep_str rx).1, rfl, .inl (by rw [← strsD_v e1 rl]; exact ad.k ▸ hx.sq), ?_, ?_⟩
        · rw [SX.lens, List.length_map, SX.S_len]
          have := okN_le h.1
          rw [sizeLine_eq] at this
          exact this
        · rw [SX.join_S]
          exact k _ H (fun _ _ e => e) rfl (rep_str (okN_le h.2))
      · cases e
  · rename_i a ds
    cases e1 : strsD ds with
    | none => rw [e1] at e; cases e
    | some ss =>
      rw [e1, Option.bind_some] at e
      split at e
      · rename_i h
        rw [Bool.and_eq_true] at h
        cases e
        obtain ⟨la, p, xs, rfl, hx, rl⟩ := rrep_tup ry
        refine ⟨_, p, ss.map SX.S, (rrep_str rx).1, rfl, .inr (by rw [← strsD_v e1 rl]; exact ad.k ▸ hx), ?_, ?_⟩
        · rw [SX.lens, List.length_map, SX.S_len]
          have := okN_le h.1
          rw [sizeLine_eq] at this
          exact this
        · rw [SX.join_S]
          exact k _ H (fun _ _ e => e) rfl (rep_str (okN_le h.2))
      · cases e
  · cases e⟩⟩
theorem cnt_count (c : Nat) : ∀ l : List Nat, PyProof.Rows.cnt c l = ((l.count c : Nat) : Int)
  | [] => rfl
  | n :: r => by
    rw [PyProof.Rows.cnt_cons, cnt_count c r, List.count_cons]
    by_cases h : n = c
    · subst h; simp; omega
    · rw [if_neg h]
      have : (n == c) = false := by simpa using h
      simp [this]
def scountD : D → D → Option D
  | .str a, .str [c] => some (.int (a.count c : Nat))
  | _, _ => none
theorem scountN {W : Wd} : MtN W "str" "count" (m1 scountD) := ⟨"str.count", PySem.F.plainAttrs_str, PySem.F.slot_str_count, PySem.F.type_str_count, fun X ad => ⟨_, mt_count, mtO1 fun ι H x v y w d Q e rx ry k kk => by
  unfold scountD at e
  split at e
  · rename_i a c
    cases e
    refine ⟨_, _, (rrep_str rx).1, by rw [(rrep_str ry).1], ?_⟩
    have e2 : Txt.count (SX.S a) (SX.S [c]) = ((a.count c : Nat) : Int) := by
      show Txt.count (SX.S a) ⟨#[c]⟩ = _
      rw [PyProof.Rows.count_cnt]
      exact cnt_count c a
    rw [e2]
    exact k _ H (fun _ _ e => e) rfl rep_int
  · cases e⟩⟩
/-! ### l.count(x) -/
def rCntD (K : PySem.W.Frag) : V → List V → Hp → VK → Prop := fun x xs H Q => ∃ a y d ds, x = .ref a ∧ xs = [y] ∧ Dp K H (.ref a) (.list ds) ∧ Dp K H y d ∧ d.plain = true ∧ PyData.plainAll ds = true ∧ d.depth ≤ 32 ∧ Q (.int ((ds.countP fun z => PyData.eqv z d : Nat) : Int)) H
theorem mt_cntD {X : Cx} (hu : X.A.units + 65 < cLine) : MtR X "list.count" (rCntD X.K) := by
  intro pins s σ H x xs v us Q I rx rxs h
  obtain ⟨a, y, d, ds, rfl, rfl, h1, h2, h3, h4, h5, q⟩ := h
  cases rx
  cases rxs with
  | cons r1 rt =>
    cases rt
    obtain ⟨bs, e1⟩ := Dp.reads I d _ _ h2 r1
    cases h1 with
    | lst hs ha =>
      obtain ⟨its, rv, pl, _⟩ := I.list hs
      obtain ⟨as, hr⟩ := Dp.readsAll I ds _ its ha rv
      exact SeqAt.count_list_data pl.isList (vs := its.toArray) (by simpa using hr) e1 h4 h3 (by omega) ⟨.int _, H, I.tok _, ⟨_, rfl⟩, q⟩
def cntD (x : D) (ds : List D) : Nat := ds.countP fun z => eqB z x
theorem cntD_py {x : D} {ds : List D} (hx : isD x = true) (hd : isDL ds = true) : ((toPyL ds).countP fun z => PyData.eqv z (toPy x)) = cntD x ds := by
  rw [countP_toPyL]
  unfold cntD
  have h := mem_isD hd
  clear hd
  induction ds with
  | nil => rfl
  | cons z r ih =>
    rw [List.countP_cons, List.countP_cons, eqB_py z x (h z (List.mem_cons_self ..)) hx, ih fun y hy => h y (List.mem_cons_of_mem _ hy)]
def lcountD : D → D → Option D
  | .lst ds, x => if shp x && ds.all shp then some (.int (cntD x ds : Nat)) else none
  | _, _ => none
theorem lcountN {W : Wd} : MtN W "list" "count" (m1 lcountD) := ⟨"list.count", PySem.F.plainAttrs_list, PySem.F.slot_list_count, PySem.F.type_list_count, fun X ad => ⟨_, mt_cntD ad.un, mtO1 fun ι H x v y w d Q e rx ry k kk => by
  unfold lcountD at e
  split at e
  · rename_i ds
    split at e
    · rename_i h
      rw [Bool.and_eq_true] at h
      cases e
      obtain ⟨a1, a2⟩ := shp_of ry h.1
      obtain ⟨b1, _⟩ := dptL (dpt_ok 32) ds h.2
      obtain ⟨la, p, xs, rfl, hx, rl⟩ := rrep_lst rx
      refine ⟨p, _, _, _, rfl, rfl, .lst (ad.k ▸ hx.sq) (ad.k ▸ repL_dp ds rl b1), ad.k ▸ a1, plain_py _, plainL_py _, a2, ?_⟩
      rw [cntD_py (dpt_ok _ _ h.1).1 b1]
      exact k _ H (fun _ _ e => e) rfl rep_int
    · cases e
  · cases e⟩⟩
end DE
set_option Elab.async false
set_option linter.all false
set_option maxRecDepth 100000
set_option maxHeartbeats 4000000
/-! DE16: sorted. -/
namespace DE
open PySem PySem.Spec L2
namespace Raw
open PyProof.Rows
section
variable {prog : Program} {w : World} {A : Around} {E : Value → Shared → Prop} {s : Shared}
/-- the items of a tuple in a new list -/
theorem collect_tup {l : Addr} {vs : List Value} {Q : List Value → Shared → Prop} (hl : s.heap.IsTuple l vs.toArray)
    (h : Q vs { s with heap := (s.heap.push (seqObj "list" #[] 0)).update s.heap.objs.size (Obj.mapSeq (· ++ vs.toArray)) }) (hsz : vs.length ≤ sizeLine) :
    wpAny (model prog w) A (collect (.ref l)) Q E s := by
  obtain ⟨o, ho, hc, n, hd⟩ := id hl
  unfold collect
  refine wpAny_bind (wpAny_runValue (codeAny_builtin entry_proto_collect' ?_))
  show wpAny _ _ (do again (.builtin "list.__iadd__" ⟨[← newList [], .ref l], []⟩)) _ _ s
  refine wpAny_bind (wpAny_newList (wpAny_pure ⟨Code.quiet_builtin _ (by decide +kernel), codeAny_builtin entry_list_iadd' ?_⟩))
  show wpAny _ _ (Builtin.List.listExtendWith (.ref s.heap.objs.size) (.ref l) (.ref s.heap.objs.size)) _ _ { s with heap := s.heap.push (seqObj "list" #[] 0) }
  unfold Builtin.List.listExtendWith
  have ho' : (s.heap.push (seqObj "list" #[] 0)).get? l = some o := Heap.get?_push_of_some _ ho
  refine wpAny_bind (wpAny_typeOf (T := "tuple") ⟨o, ho', hc⟩ ?_)
  have ht : (Value.type "tuple" == Value.type "tuple") = true := by rfl
  rw [if_pos (by rw [ht]; simp)]
  refine wpAny_bind (listItems_at ho' hd ?_)
  refine wpAny_bind (listItems_at (xs := #[]) (n := 0) (Heap.get?_push_size _ rfl) rfl ?_)
  rw [if_neg (by simp)]
  refine wpAny_bind (listUpdate_at (xs := #[]) (n := 0) (Heap.get?_push_size _ rfl) rfl ?_ (Nat.zero_le _) (by show (#[] ++ vs.toArray).size ≤ sizeLine + 1; simp only [Array.size_append, List.size_toArray, List.length_nil]; omega))
  refine wpAny_pure ?_
  show wpAny (model prog w) A (do
      let o ← load s.heap.objs.size
      match o.data with
      | .seq xs _ => pure xs.toList
      | _ => unsupported "internal:collect") Q E { s with heap := (s.heap.push (seqObj "list" #[] 0)).update s.heap.objs.size (Obj.mapSeq (· ++ vs.toArray)) }
  refine wpAny_bind (wpAny_load (get?_update_seq (Heap.get?_push_size _ rfl) _) ?_)
  show wpAny _ _ (pure ((#[] : Array Value) ++ vs.toArray).toList) Q E _
  rw [show ((#[] : Array Value) ++ vs.toArray).toList = vs by simp]
  exact wpAny_pure h
theorem sorted_tup {l : Addr} {vs : List Value} {ns : List Int} {Q : Value → Shared → Prop} (hl : s.heap.IsTuple l vs.toArray) (hI : IntsAre vs ns) (h64 : vs.length < 64)
    (h : ∀ (out : Array Value) (ns' : List Int), IntsAre out.toList ns' → ns'.Perm ns → ns'.Pairwise (· ≤ ·) → Q (.ref (s.heap.objs.size + 1)) { s with heap := sortedAll s.heap vs out }) :
    wpAny (model prog w) A (call (.builtin "sorted") [.ref l]) Q E s := by
  refine Calls.call_function_entry kind_sorted plain_sorted entry_sorted (args_sorted1 _) ?_
  unfold Builtin.«sorted»
  refine wpAny_bind (m := checkCount "sorted" 1 1 _) (wpAny_pure ?_)
  refine wpAny_bind (collect_tup hl ?_ (by rw [sizeLine_eq]; omega))
  refine wpAny_bind (wpAny_newList ?_)
  have hsz : ((s.heap.push (seqObj "list" #[] 0)).update s.heap.objs.size (Obj.mapSeq (· ++ vs.toArray))).objs.size = s.heap.objs.size + 1 := by
    rw [Heap.size_update, size_push']
  have hoL : (((s.heap.push (seqObj "list" #[] 0)).update s.heap.objs.size (Obj.mapSeq (· ++ vs.toArray))).push (seqObj "list" vs.toArray 0)).get? (s.heap.objs.size + 1) = some (seqObj "list" vs.toArray 0) := by
    rw [← hsz]; exact Heap.get?_push_size _ rfl
  show wpAny _ _ _ _ _ { s with heap := ((s.heap.push (seqObj "list" #[] 0)).update s.heap.objs.size (Obj.mapSeq (· ++ vs.toArray))).push (seqObj "list" vs.toArray 0) }
  rw [hsz]
  refine wpAny_bind (wpAny_holding (wpAny_call_entry slot_list_sort ⟨_, hoL, rfl⟩ entry_list_sort (list_sort_tree hoL hI h64 fun out ns' a1 a2 a3 => ⟨_, rfl, ?_⟩) (args_list_sort _)))
  exact wpAny_pure ⟨_, rfl, h out ns' a1 a2 a3⟩
end
end Raw
def rSortedT (K : PySem.W.Frag) : List V → Hp → VK → Prop := fun vs H Q => ∃ (a : Addr) (ns : List Int), vs = [V.ref a] ∧ SqT K H a (ns.map V.int) ∧ ns.length < 64 ∧
  ∀ (ns' : List Int) (p : Addr), ns'.Perm ns → ns'.Pairwise (· ≤ ·) → H p = none → Q (.ref p) (upd H p (.lst (ns'.map V.int)))
theorem cr_sortedTup {X : Cx} : CallR X (.builtin "sorted") (rSortedT X.K) := by
  intro pins s σ H vs us Q I r h
  obtain ⟨a, ns, rfl, hs, h64, q⟩ := h
  obtain ⟨its, rv, hl, _⟩ := I.tuple hs
  rw [Vals.ref1 r]
  have hi := rv.ints
  refine Raw.sorted_tup hl hi (by rw [hi.length]; exact h64) fun out ns' h1 h2 h3 => ?_
  obtain ⟨ep, he'⟩ := PyProof.Rows.sortedAll_at s.heap its out
  have hlen : (ns'.map V.int).length ≤ sizeLine := by rw [List.length_map, h2.length_eq]; exact small64 h64
  exact ⟨.ref _, upd H (s.heap.objs.size + 1) (.lst (ns'.map V.int)), I.laid (t' := s.toks) (fun _ _ => PyProof.Rows.sortedAll_old) (Nat.le_succ _) ⟨hlen, out.toList, ep, vals_of_ints h1, he'⟩, rfl, q ns' _ h2 h3 (I.hok.fresh (Nat.le_succ _))⟩
/-! ### what is sorted -/
def leI (a b : Int) : Bool := decide (a ≤ b)
def leS (a b : List Nat) : Bool := decide (a ≤ b)
def srtI (l : List Int) : List Int := l.mergeSort leI
def srtS (l : List (List Nat)) : List (List Nat) := l.mergeSort leS
theorem srtI_perm (l : List Int) : (srtI l).Perm l := List.mergeSort_perm l leI
theorem srtS_perm (l : List (List Nat)) : (srtS l).Perm l := List.mergeSort_perm l leS
theorem srtI_le (l : List Int) : (srtI l).Pairwise (· ≤ ·) := by
  have h := List.pairwise_mergeSort (le := leI) (fun a b c h1 h2 => by simp [leI] at *; omega) (fun a b => by simp [leI]; omega) l
  exact h.imp fun h => of_decide_eq_true h
theorem srtS_le (l : List (List Nat)) : (srtS l).Pairwise (· ≤ ·) := by
  have h := List.pairwise_mergeSort (le := leS) (fun a b c h1 h2 => by simp only [leS, decide_eq_true_eq] at *; exact List.le_trans h1 h2) (fun a b => by simp only [leS, Bool.or_eq_true, decide_eq_true_eq]; exact List.le_total a b) l
  exact h.imp fun h => of_decide_eq_true h
theorem srtI_of {l m : List Int} (p : m.Perm l) (h : m.Pairwise (· ≤ ·)) : m = srtI l := List.Perm.eq_of_pairwise (le := (· ≤ ·)) (fun a b _ _ h1 h2 => Int.le_antisymm h1 h2) h (srtI_le l) (p.trans (srtI_perm l).symm)
theorem srtS_of {l m : List (List Nat)} (p : m.Perm l) (h : m.Pairwise (· ≤ ·)) : m = srtS l := List.Perm.eq_of_pairwise (le := (· ≤ ·)) (fun a b _ _ h1 h2 => List.le_antisymm h1 h2) h (srtS_le l) (p.trans (srtS_perm l).symm)
theorem rising_pw : ∀ (l : List Str) (p : Str), PyProof.Rows.risingS p l = true → (TL.tl p :: l.map TL.tl).Pairwise (· ≤ ·)
  | [], p, _ => by simp
  | x :: r, p, h => by
    have h : (!PySem.Spec.ltCps x.cps.toList p.cps.toList && PyProof.Rows.risingS x r) = true := h
    rw [Bool.and_eq_true, Bool.not_eq_true', PyProof.Rows.ltCps_eq, decide_eq_false_iff_not] at h
    have h1 : TL.tl p ≤ TL.tl x := List.not_lt.mp h.1
    have h2 := rising_pw r x h.2
    rw [List.map_cons, List.pairwise_cons]
    refine ⟨fun y hy => ?_, h2⟩
    rcases List.mem_cons.mp hy with rfl | hy
    · exact h1
    · rw [List.pairwise_cons] at h2
      exact List.le_trans h1 (h2.1 y hy)
theorem sortedS_pw {l : List Str} (h : PyProof.Rows.sortedS l = true) : (l.map TL.tl).Pairwise (· ≤ ·) := by
  cases l with
  | nil => exact List.Pairwise.nil
  | cons x r => exact rising_pw r x h
def sortedD : D → Option (List D)
  | .lst ds => (match intsD ds with
    | some ns => if okN ns.length then some ((srtI ns).map D.int) else none
    | none => (match strsD ds with
      | some ss => if Nat.blt ss.length 64 then some ((srtS ss).map D.str) else none
      | none => none))
  | .tup ds => (match intsD ds with
    | some ns => if Nat.blt ns.length 64 then some ((srtI ns).map D.int) else none
    | none => none)
  | _ => none
theorem repL_ints {W : Wd} {ι : List Addr} {H : Hp} : ∀ {l : List Int}, RepL W ι H (l.map D.int) (l.map V.int)
  | [] => .nil
  | s :: l => .cons rfl rep_int repL_ints
theorem boot_sorted : bootBuiltins "sorted" = some (.builtin "sorted") := by decide +kernel
theorem sortedN {W : Wd} : BlN W "sorted" (g1 sortedD) := ⟨by decide, _, boot_sorted, fun X ad => ⟨_, cr_sortedI.or (cr_sortedS.or cr_sortedTup), blOk1 fun ι H x v d Q e r k => by
  unfold sortedD at e
  split at e
  · rename_i ds
    obtain ⟨la, p, xs, rfl, hx, rl⟩ := rrep_lst r
    split at e
    · rename_i ns e1
      split at e
      · rename_i h
        cases e
        refine .inl ⟨p, ns, rfl, by rw [← intsD_v e1 rl]; exact ad.k ▸ hx.sq, fun ns' q h1 h2 hq => ?_⟩
        rw [srtI_of h1 h2]
        refine k q _ hq ?_ repL_ints
        rw [List.length_map, (srtI_perm ns).length_eq]
        exact okN_le h
      · cases e
    · split at e
      · rename_i ss e1
        split at e
        · rename_i h
          cases e
          have h64 : ss.length < 64 := by have := Nat.le_of_ble_eq_true h; omega
          refine .inr (.inl ⟨p, ss.map SX.S, rfl, by rw [← strsD_v e1 rl]; exact ad.k ▸ hx.sq, by rw [List.length_map]; exact h64, fun ys q h1 h2 hq => ?_⟩)
          have hy : ys.map TL.tl = srtS ss := srtS_of (by have := h1.map TL.tl; rwa [SX.map_S_tl] at this) (sortedS_pw h2)
          have hy2 : ys = (srtS ss).map SX.S := by
            rw [← hy, List.map_map]
            have : (SX.S ∘ TL.tl) = id := funext fun x => SX.S_tl x
            rw [this, List.map_id]
          rw [hy2]
          refine k q _ hq ?_ (repL_strs fun s hs => ?_)
          · rw [List.length_map, (srtS_perm ss).length_eq, sizeLine_eq]; omega
          · have hm : s ∈ ss := (srtS_perm ss).mem_iff.mp hs
            have hm2 : V.str (SX.S s) ∈ xs := by rw [strsD_v e1 rl]; exact List.mem_map_of_mem (List.mem_map_of_mem hm)
            obtain ⟨i, hi, hv⟩ := List.getElem_of_mem hm2
            obtain ⟨dd, _, rv, _⟩ := rl.getV (show xs[i]? = some (V.str (SX.S s)) by rw [List.getElem?_eq_getElem hi, hv])
            cases dd with
            | str t =>
              unfold Rep at rv
              obtain ⟨e3, l3⟩ := rv
              injection e3 with e3
              rw [SX.S_inj e3]; exact l3
            | non => unfold Rep at rv; cases rv
            | bl _ => unfold Rep at rv; cases rv
            | int _ => unfold Rep at rv; cases rv
            | lst _ => unfold Rep at rv; obtain ⟨_, _, _, z, _⟩ := rv; cases z
            | tup _ => unfold Rep at rv; obtain ⟨_, _, _, z, _⟩ := rv; cases z
            | ins _ _ => unfold Rep at rv; obtain ⟨_, _, _, _, z, _⟩ := rv; cases z
            | han _ => unfold Rep at rv; obtain ⟨_, _, z⟩ := rv; cases z
            | bor _ => unfold Rep at rv; exact rv.elim
            | brw _ => unfold Rep at rv; obtain ⟨_, _, _, z, _⟩ := rv; cases z
            | fn _ => unfold Rep at rv; obtain ⟨_, _, z⟩ := rv; cases z
        · cases e
      · cases e
  · rename_i ds
    obtain ⟨la, p, xs, rfl, hx, rl⟩ := rrep_tup r
    split at e
    · rename_i ns e1
      split at e
      · rename_i h
        cases e
        have h64 : ns.length < 64 := by have := Nat.le_of_ble_eq_true h; omega
        refine .inr (.inr ⟨p, ns, rfl, by rw [← intsD_v e1 rl]; exact ad.k ▸ hx, h64, fun ns' q h1 h2 hq => ?_⟩)
        rw [srtI_of h1 h2]
        refine k q _ hq ?_ repL_ints
        rw [List.length_map, (srtI_perm ns).length_eq, sizeLine_eq]
        omega
      · cases e
    · cases e
  · cases e⟩⟩
end DE
set_option Elab.async false
set_option linter.all false
set_option maxRecDepth 100000
set_option maxHeartbeats 4000000
/-! DE17: attributes, list(range(n)), isinstance. -/
namespace DE
open PySem PySem.Spec L2
/-! ### e.f -/
def fldOf (z : Z) (k : Nat) : D → Option D
  | .ins _ fs => fs.lookup k
  | .han n => (match z.2[n]? with
    | some (.ins _ fs) => fs.lookup k
    | _ => none)
  | _ => none
def fFld (k : Nat) (fa : Ev) : Ev := fun z => (fa z).bind fun x => (fldOf x.2 k x.1).map fun d => (d, x.2)
theorem RepF.get {W : Wd} {ι : List Addr} {H : Hp} {C : Addr} {k : Nat} (inj : ∀ j, j < W.nn → W.nm j = W.nm k → j = k) : ∀ {fs : List (Nat × D)} {vs : List (Str × V)} {d : D}, RepF W ι H C fs vs → fs.lookup k = some d → ∃ v, vs.lookup (W.nm k) = some v ∧ Rep W ι H d v ∧ d.plain = true ∧ NoAttr W.K C (W.nm k)
  | [], _, _, _, e => by cases e
  | (j, x) :: fs, _, d, r, e => by
    unfold RepF at r
    obtain ⟨v, us, rfl, lt, na, p, r1, r2⟩ := r
    by_cases h : k = j
    · subst h
      have e2 : some x = some d := by rw [← e]; simp [List.lookup]
      cases e2
      exact ⟨v, by simp [List.lookup], r1, p, na⟩
    · have e2 : fs.lookup k = some d := by
        rw [← e]
        have hb : (k == j) = false := by simpa using h
        simp [List.lookup, hb]
      obtain ⟨u, h1, h2⟩ := RepF.get inj r2 e2
      have hb : (W.nm k == W.nm j) = false := by simpa using fun q => h (inj j lt q.symm).symm
      exact ⟨u, by simp [List.lookup, hb, h1], h2⟩
def semFld (k : Nat) : List Ev → Ev
  | [fa] => fFld k fa
  | _ => fun _ => none
def shFld (f : Str) : Scope → Expr → Option (List Expr) := fun _ e => match e with
  | .Attribute o g _ => if g = f ∧ noSup o = true then some [o] else none
  | _ => none
/-- the names of attributes are apart -/
def Inj (W : Wd) : Prop := ∀ i j, i < W.nn → j < W.nn → W.nm i = W.nm j → i = j
theorem fldN {G : GX} {lv : Nat} {f : Str} {k : Nat} (hk : k < G.W.nn) (hf : G.W.nm k = f) (inj : Inj G.W) : ExtN G lv (shFld f) (semFld k) := by
  intro N sc X fx e vs hs fs hp B
  unfold shFld at hs
  split at hs
  · rename_i o g p
    split at hs
    · rename_i h
      cases hs
      obtain ⟨rfl, hn⟩ := h
      cases hp B with
      | cons h1 ht =>
        cases ht
        rename_i fa
        show PE X _ (tev G.W B (fFld k fa))
        refine pe_mono (pe_fld h1 (base_ok hn)) fun σ H Q q => ?_
        obtain ⟨ι, z, d, z', zr, e1, kk⟩ := q
        unfold fFld at e1
        cases ea : fa z with
        | none => rw [ea] at e1; cases e1
        | some x =>
          rw [ea, Option.bind_some] at e1
          cases e2 : fldOf x.2 k x.1 with
          | none => rw [e2] at e1; cases e1
          | some d1 =>
            rw [e2] at e1
            cases e1
            refine ⟨ι, z, x.1, x.2, zr, ea, fun v ι1 H1 k1 r1 zr1 => ?_⟩
            obtain ⟨x1, x2⟩ := x
            have fin : ∀ a C dx fs fvs, v = .ref a → H1 a = some (.ins C dx fvs) → Cls G.W.K C → RepF G.W ι1 H1 C fs fvs → fs.lookup k = some d → ∃ a C dx fs v1, v = .ref a ∧ H1 a = some (.ins C dx fs) ∧ Cls X.K C ∧ NoAttr X.K C g ∧ fs.lookup g = some v1 ∧ Q v1 H1 := fun a C dx fs fvs ev ha cl rf el => by
              obtain ⟨u, hu, ru, pu, na⟩ := rf.get (fun j hj ej => inj j k hj hk ej) el
              rw [hf] at hu na
              exact ⟨a, C, dx, fvs, u, ev, ha, fx.k ▸ cl, fx.k ▸ na, hu, kk u ι1 H1 k1 (XRep.of pu ru) zr1⟩
            cases x1 with
            | ins c fs =>
              obtain ⟨_, r⟩ := r1
              unfold Rep at r
              obtain ⟨a, C, dx, fvs, ev, hc, ha, hn, cl, rf⟩ := r
              exact fin a C dx fs fvs ev ha cl rf e2
            | han n =>
              obtain ⟨_, r⟩ := r1
              unfold Rep at r
              obtain ⟨a, ha, ev⟩ := r
              replace e2 : (match x2.2[n]? with
                | some (.ins _ fs) => fs.lookup k
                | _ => none) = some d := e2
              split at e2
              · rename_i c fs hn
                obtain ⟨C, dx, fvs, hc, hh, cl, rf⟩ := zr1.st.at_ n _ a hn ha
                exact fin a C dx fs fvs ev hh cl rf e2
              · cases e2
            | _ => cases e2
    · cases hs
  · cases hs
/-! ### list(range(n)) -/
def rgDs (n : Int) : Option (List D) := if -1000000 ≤ n ∧ n ≤ 16777216 then some (rngL 0 n.toNat) else none
def semLrg : List Ev → EvA
  | [fa] => fun z => (fa z).bind fun x => (match x.1 with
    | .int n => (rgDs n).map fun l => (l, x.2)
    | _ => none)
  | _ => fun _ => none
def shLrg : Scope → Expr → Option (List Expr) := fun sc e => match e with
  | .Call (.Name y _) [.Call (.Name y2 _) [v] [] _] [] _ => if y = "list" ∧ y2 = "range" ∧ glb sc y = true ∧ glb sc y2 = true ∧ notStar v = true then some [v] else none
  | _ => none
theorem repL_rng {W : Wd} {ι : List Addr} {H : Hp} (lo : Int) (n : Nat) : RepL W ι H (rngL lo n) ((List.range n).map fun i => V.int (lo + (i : Nat))) := by
  unfold rngL
  generalize List.range n = l
  induction l with
  | nil => exact .nil
  | cons a l ih => exact .cons rfl rep_int ih
theorem lrgN {G : GX} {lv : Nat} (h1 : G.mg "list" = none) (h2 : G.mg "range" = none) : ExtF G lv shLrg semLrg := by
  intro N sc X fx e vs hs fs hp B
  unfold shLrg at hs
  split at hs
  · rename_i y p y2 p2 v pos2 pos
    split at hs
    · rename_i h
      cases hs
      obtain ⟨rfl, rfl, g1, g2, ns⟩ := h
      cases hp B with
      | cons hv ht =>
        cases ht
        rename_i fa
        refine pe_mono (pe_listRg fx.calm (show X.env.scope.names.lookup _ = _ by rw [fx.sc]; exact glb_ok g1) (by rw [fx.mg]; exact h1) (prg_1 (show X.env.scope.names.lookup _ = _ by rw [fx.sc]; exact glb_ok g2) (by rw [fx.mg]; exact h2) hv (star_ok ns)) (star_ok rfl)) fun σ H Q q => ?_
        obtain ⟨ι, z, d, z', zr, e1, kk⟩ := q
        replace e1 : ((fa z).bind fun x => (match x.1 with
          | .int n => (rgDs n).map fun l => (l, x.2)
          | _ => none)) = some (d, z') := e1
        cases ea : fa z with
        | none => rw [ea] at e1; cases e1
        | some x =>
          rw [ea, Option.bind_some] at e1
          obtain ⟨x1, x2⟩ := x
          cases x1 with
          | int n =>
            replace e1 : (rgDs n).map (fun l => (l, x2)) = some (d, z') := e1
            unfold rgDs at e1
            split at e1
            · rename_i hb
              cases e1
              refine ⟨ι, z, _, _, zr, ea, fun v ι1 H1 k1 r1 zr1 => ⟨n, x_int r1, ⟨by omega, by omega, by omega, by omega, by omega⟩, fun p hp => ?_⟩⟩
              have hl : (rngL 0 n.toNat).length ≤ sizeLine := by unfold rngL; rw [List.length_map, List.length_range, sizeLine_eq]; omega
              have e0 : (n - 0).toNat = n.toNat := by rw [Int.sub_zero]
              exact kk p _ ι1 _ (k1.trans (Kp.alloc hp)) (zr1.alloc hp) ((show RepL G.W ι1 H1 (rngL 0 n.toNat) (rgV 0 n) from by unfold rgV; rw [e0]; exact repL_rng 0 n.toNat).kp (Kp.alloc hp)) hl (k1.th p hp) upd_same (Fr.of zr1 hp)
            · cases e1
          | _ => cases e1
    · cases hs
  · cases hs
/-! ### isinstance(e, T) -/
def fIsi (f : D → Option Bool) (fa : Ev) : Ev := fun z => (fa z).bind fun x => (rd x.2 x.1).bind fun d => (f d).map fun b => (.bl b, x.2)
def semIsi (f : D → Option Bool) : List Ev → Ev
  | [fa] => fIsi f fa
  | _ => fun _ => none
def shIsi (T : Str) : Scope → Expr → Option (List Expr) := fun sc e => match e with
  | .Call (.Name y _) [v, .Name t _] [] _ => if y = "isinstance" ∧ t = T ∧ glb sc y = true ∧ glb sc t = true ∧ nodbg t = true ∧ notStar v = true then some [v] else none
  | _ => none
structure IsiN (G : GX) (T : Str) (f : D → Option Bool) : Prop where
  m : G.mg "isinstance" = none
  ex : ∃ c u, ClsV c u ∧ ((G.mg T = none ∧ T ≠ "__name__" ∧ bootBuiltins T = some u) ∨ G.mg T = some u) ∧ ∀ ι H x v b, f x = some b → RRep G.W ι H x v → ∃ t, TyX G.W.K H v t ∧ PySem.W.kitOne G.W.K t u = some b
theorem boot_isinstance' : bootBuiltins "isinstance" = some (.builtin "isinstance") := by decide +kernel
theorem isiN {G : GX} {lv : Nat} {T : Str} {f : D → Option Bool} (n : IsiN G T f) : ExtN G lv (shIsi T) (semIsi f) := by
  intro N sc X fx e vs hs fs hp B
  unfold shIsi at hs
  split at hs
  · rename_i y p v t pt pos
    split at hs
    · rename_i h
      cases hs
      obtain ⟨rfl, rfl, g1, g2, nd, ns⟩ := h
      obtain ⟨c, u, cv, hT, ok⟩ := n.ex
      have gy : Gl X "isinstance" := show X.env.scope.names.lookup _ = _ by rw [fx.sc]; exact glb_ok g1
      have gt : Gl X t := show X.env.scope.names.lookup _ = _ by rw [fx.sc]; exact glb_ok g2
      have rc : RelV c u := by cases cv <;> rfl
      have pT : PE X (.Name t pt) (tC c) := by
        rcases hT with ⟨q1, q2, q3⟩ | q
        · exact pe_bltn gt (by rw [fx.mg]; exact q1) q3 rc q2 (nodbg_ok nd).1
        · exact pe_glob gt (by rw [fx.mg]; exact q) rc (nodbg_ok nd).1
      cases hp B with
      | cons hv ht =>
        cases ht
        rename_i fa
        show PE X _ (tev G.W B (fIsi f fa))
        refine pe_mono (pe_callB call_isi gy (by rw [fx.mg]; exact n.m) boot_isinstance' (pa_cons hv (pa_cons pT pa_nil (star_ok rfl)) (star_ok ns)) (by decide) (by decide) (star_ok ns) rfl) fun σ H Q q => ?_
        obtain ⟨ι, z, d, z', zr, e1, kk⟩ := q
        unfold fIsi at e1
        cases ea : fa z with
        | none => rw [ea] at e1; cases e1
        | some x =>
          rw [ea, Option.bind_some] at e1
          cases e2 : rd x.2 x.1 with
          | none => rw [e2] at e1; cases e1
          | some d1 =>
            rw [e2, Option.bind_some] at e1
            cases e3 : f d1 with
            | none => rw [e3] at e1; cases e1
            | some b =>
              rw [e3] at e1
              cases e1
              refine ⟨ι, z, x.1, x.2, zr, ea, fun v ι1 H1 k1 r1 zr1 => ?_⟩
              obtain ⟨t, ty, kit⟩ := ok ι1 H1 d1 v b e3 (rd_rep zr1 r1 e2)
              exact ⟨v, c, t, u, b, rfl, cv, fx.k ▸ ty, fx.k ▸ kit, kk _ ι1 H1 k1 xbl zr1⟩
    · cases hs
  · cases hs
/-- the built-in type of data -/
def tyN : D → Option String
  | .non => some "NoneType"
  | .bl _ => some "bool"
  | .int _ => some "int"
  | .str _ => some "str"
  | .lst _ => some "list"
  | .tup _ => some "tuple"
  | _ => none
theorem tyN_ok {W : Wd} {ι : List Addr} {H : Hp} {d : D} {v : V} {A : String} (e : tyN d = some A) (r : RRep W ι H d v) : TyX W.K H v (.type A) := by
  cases d with
  | non => cases e; rw [rrep_non r]; exact .base .non
  | bl b => cases e; rw [rrep_bl r]; exact .base (.bl b)
  | int b => cases e; rw [rrep_int r]; exact .base (.int b)
  | str b => cases e; rw [(rrep_str r).1]; exact .base (.str _)
  | lst l =>
    cases e
    obtain ⟨_, a, xs, rfl, hx, _⟩ := rrep_lst r
    rcases hx with (hx | ⟨o, hx⟩) | ⟨its, n, hx, _⟩
    · exact .base (.lst hx)
    · exact .base (.frz hx)
    · exact .kList hx rfl
  | tup l =>
    cases e
    obtain ⟨_, a, xs, rfl, hx, _⟩ := rrep_tup r
    rcases hx with (hx | ⟨o, hx⟩) | ⟨o, its, n, hx, hc, _⟩
    · exact .base (.tup hx)
    · exact .fTuple hx
    · exact .kTuple hx hc
  | _ => cases e
theorem kit_self {K : PySem.W.Frag} (t : Value) : PySem.W.kitOne K t t = some true := by
  unfold PySem.W.kitOne
  rw [if_pos (by simp)]
def tyIs (T A : String) : Bool := A == T || (A == "bool" && T == "int")
theorem kit_b {K : PySem.W.Frag} {T A : String} (hT : T ∈ ["int", "bool", "str", "tuple", "list"]) (hA : A ∈ ["NoneType", "bool", "int", "str", "list", "tuple"]) : PySem.W.kitOne K (.type A) (.type T) = some (tyIs T A) := by
  simp only [List.mem_cons, List.not_mem_nil, or_false] at hT hA
  rcases hT with rfl | rfl | rfl | rfl | rfl <;> rcases hA with rfl | rfl | rfl | rfl | rfl | rfl <;> rfl
theorem tyN_mem {d : D} {A : String} (e : tyN d = some A) : A ∈ ["NoneType", "bool", "int", "str", "list", "tuple"] := by
  cases d <;> cases e <;> simp
/-- isinstance(d, T), T a built-in type -/
def isB (T : String) (d : D) : Option Bool := (tyN d).map (tyIs T)
theorem isiB {G : GX} {T : String} (hT : T ∈ ["int", "bool", "str", "tuple", "list"]) (h0 : G.mg "isinstance" = none) (h1 : G.mg (Str.ofString T) = none) (hb : bootBuiltins (Str.ofString T) = some (.type T)) (hn : Str.ofString T ≠ "__name__") : IsiN G (Str.ofString T) (isB T) :=
  ⟨h0, .ty T, .type T, .ty T, .inl ⟨h1, hn, hb⟩, fun ι H x v b e r => by
    unfold isB at e
    cases e1 : tyN x with
    | none => rw [e1] at e; cases e
    | some A =>
      rw [e1] at e
      cases e
      exact ⟨_, tyN_ok e1 r, kit_b hT (tyN_mem e1)⟩⟩
/-- isinstance(d, C), C an own class: an instance of it -/
def isC (c : Nat) : D → Option Bool
  | .ins c' _ => if c' = c then some true else none
  | _ => none
theorem isiC {G : GX} {x : Str} {c : Nat} {C : Addr} (h0 : G.mg "isinstance" = none) (h1 : G.mg x = some (.ref C)) (hc : G.W.cls c = some C) (ic : C8.InsC G.W.K C) : IsiN G x (isC c) :=
  ⟨h0, .ref C, .ref C, .own C, .inr h1, fun ι H d v b e r => by
    cases d with
    | ins c' fs =>
      replace e : (if c' = c then some true else none) = some b := e
      by_cases h : c' = c
      · rw [if_pos h] at e
        cases e
        subst h
        obtain ⟨_, r⟩ := r
        unfold Rep at r
        obtain ⟨a, C', dx, fvs, rfl, hc', ha, hn, cl, rf⟩ := r
        rw [hc] at hc'
        cases hc'
        exact ⟨.ref C, .base (.ins ha ic.cl ic.ha ic.hn ic.htk ic.hm), ic.me⟩
      · rw [if_neg h] at e
        cases e
    | _ => cases e⟩
end DE
set_option Elab.async false
set_option linter.all false
set_option maxRecDepth 100000
set_option maxHeartbeats 4000000
/-! DE18: e.f = v, a new instance, calls with keywords. -/
namespace DE
open PySem PySem.Spec L2
/-! ### o.f = v -/
def putD (k : Nat) (d : D) : List (Nat × D) → List (Nat × D)
  | [] => [(k, d)]
  | (j, x) :: r => if j = k then (j, d) :: r else (j, x) :: putD k d r
theorem RepF.len {W : Wd} {ι : List Addr} {H : Hp} {C : Addr} : ∀ {fs : List (Nat × D)} {vs : List (Str × V)}, RepF W ι H C fs vs → fs.length = vs.length
  | [], _, r => by unfold RepF at r; subst r; rfl
  | (j, x) :: fs, _, r => by
    unfold RepF at r
    obtain ⟨v, us, rfl, lt, na, p, r1, r2⟩ := r
    simp [r2.len]
theorem RepF.put {W : Wd} {ι : List Addr} {H : Hp} {C : Addr} {k : Nat} (hk : k < W.nn) (inj : ∀ j, j < W.nn → W.nm j = W.nm k → j = k) (na : NoAttr W.K C (W.nm k)) {d : D} {v : V} (p : d.plain = true) (rd : Rep W ι H d v) : ∀ {fs : List (Nat × D)} {vs : List (Str × V)}, RepF W ι H C fs vs → RepF W ι H C (putD k d fs) (putF (W.nm k) v vs)
  | [], _, r => by
    unfold RepF at r
    subst r
    unfold putD putF
    unfold RepF
    exact ⟨v, [], rfl, hk, na, p, rd, by unfold RepF; rfl⟩
  | (j, x) :: fs, _, r => by
    unfold RepF at r
    obtain ⟨u, us, rfl, lt, na', p', r1, r2⟩ := r
    unfold putD putF
    by_cases h : j = k
    · subst h
      rw [if_pos rfl, if_pos rfl]
      unfold RepF
      exact ⟨v, us, rfl, hk, na, p, rd, r2⟩
    · rw [if_neg h, if_neg fun q => h (inj j lt q)]
      unfold RepF
      exact ⟨u, _, rfl, lt, na', p', r1, RepF.put hk inj na p rd r2⟩
/-- the instance at cell n is put otherwise -/
theorem ZR.ins_set {W : Wd} {B : Bs} {ι : List Addr} {H : Hp} {σ : L2.St} {z : Z} {n c : Nat} {fs fs' : List (Nat × D)} {a C dx : Addr} {vs vs' : List (Str × V)} (zr : ZR W B ι H σ z) (hn : z.2[n]? = some (.ins c fs)) (ha : ι[n]? = some a) (hc : W.cls c = some C) (hh : H a = some (.ins C dx vs)) (cl : Cls W.K C) (r : RepF W ι H C fs' vs') :
    Kp ι H ι (upd H a (.ins C dx vs')) ∧ ZR W B ι (upd H a (.ins C dx vs')) σ (z.1, z.2.set n (.ins c fs')) := by
  have hm : a ∈ ι := List.mem_of_getElem? ha
  have k2 : Kp ι H ι (upd H a (.ins C dx vs')) := Kp.at_ hh rfl (fun _ _ _ _ => hm)
  have hP : B.P a = none := zr.newP a hm
  have hne : ∀ b, b ∉ ι → b ≠ a := fun b hb q => hb (q ▸ hm)
  refine ⟨k2, ⟨by simp [zr.st.len], zr.st.nd, fun m mo b e1 e2 => ?_⟩, zr.pre, zr.new, fun b o e nb => ?_, zr.newP, fun b o e => ?_, zr.len, fun i dv x => ?_, zr.dis⟩
  · by_cases q : m = n
    · subst q
      have hlt : m < z.2.length := (List.getElem?_eq_some_iff.mp hn).1
      simp only [List.getElem?_set_self hlt] at e1
      cases e1
      rw [ha] at e2
      cases e2
      exact ⟨C, dx, vs', hc, upd_same, cl, r.kp k2⟩
    · simp only [List.getElem?_set_ne (Ne.symm q)] at e1
      have hb : b ≠ a := fun qq => q (by
        subst qq
        have h1 := (List.getElem?_eq_some_iff.mp e2)
        have h2 := (List.getElem?_eq_some_iff.mp ha)
        obtain ⟨l1, g1⟩ := h1
        obtain ⟨l2, g2⟩ := h2
        exact (List.getElem_inj zr.st.nd).mp (g1.trans g2.symm))
      exact (zr.st.at_ m mo b e1 e2).kp k2 fun o e => by rw [upd_ne hb]; exact e
  · by_cases q : b = a
    · subst q
      by_cases hb : b ∈ B.ι
      · exact absurd hb nb
      · have := zr.new b hm hb
        rw [this] at e; cases e
    · rw [upd_ne q]; exact zr.keep b o e nb
  · rw [upd_ne (fun q => by rw [q, hP] at e; cases e)]; exact zr.keepP b o e
  · obtain ⟨v, hv, rr⟩ := zr.slot i dv x
    refine ⟨v, hv, ?_⟩
    cases dv with
    | imm d => exact ⟨rr.1, rr.2.kp k2 rr.1⟩
    | own ds => obtain ⟨l, b, xs, e, x, f, i, r'⟩ := rr; exact ⟨l, b, xs, e, by rw [upd_ne (hne b i)]; exact x, f, i, r'.kp k2⟩
    | oT ds => obtain ⟨l, b, xs, e, x, f, i, r'⟩ := rr; exact ⟨l, b, xs, e, by rw [upd_ne (hne b i)]; exact x, f, i, r'.kp k2⟩
    | oK ds => obtain ⟨l, b, xs, e, x, f, i, r'⟩ := rr; exact ⟨l, b, xs, e, by rw [upd_ne (hne b i)]; exact x, f, i, r'.kp k2⟩
    | brw ds => obtain ⟨l, b, xs, e, x, f, m, i, r'⟩ := rr; exact ⟨l, b, xs, e, by rw [upd_ne (hne b i)]; exact x, f, m, i, r'.kp k2⟩
def gFld (k : Nat) (fa : Ev) : EvG := fun d z => (fa z).bind fun x => (match x.1 with
  | .han n => (match x.2.2[n]? with
    | some (.ins c fs) => if Nat.blt fs.length 900 then some (x.2.1, x.2.2.set n (.ins c (putD k d fs))) else none
    | _ => none)
  | _ => none)
def semGf (k : Nat) : List Ev → EvG
  | [fa] => gFld k fa
  | _ => fun _ _ => none
theorem gfldN {G : GX} {lv : Nat} {f : Str} {k : Nat} (hk : k < G.W.nn) (hf : G.W.nm k = f) (inj : Inj G.W) (na : ∀ c C, G.W.cls c = some C → NoAttr G.W.K C f) : ExtG G lv (shFld f) (semGf k) := by
  intro N sc X fx hfn e vs hs fs hp B
  unfold shFld at hs
  split at hs
  · rename_i o g p
    split at hs
    · rename_i h
      cases hs
      obtain ⟨rfl, hn⟩ := h
      cases hp B with
      | cons h1 ht =>
        cases ht
        rename_i fa
        refine ⟨fun pins s σ H v u Q I r h => ?_⟩
        rw [arm_assign_Attribute]
        obtain ⟨ι, z, d, z', zr, pd, rv, e1, kk⟩ := h
        replace e1 : gFld k fa d z = some z' := e1
        unfold gFld at e1
        cases ea : fa z with
        | none => rw [ea] at e1; cases e1
        | some x =>
          rw [ea, Option.bind_some] at e1
          obtain ⟨x1, x2⟩ := x
          cases x1 with
          | han n =>
            replace e1 : (match x2.2[n]? with
              | some (.ins c fs) => if Nat.blt fs.length 900 then some (x2.1, x2.2.set n (.ins c (putD k d fs))) else none
              | _ => none) = some z' := e1
            split at e1
            · rename_i c fs hx
              split at e1
              · rename_i hl
                cases e1
                have hrun := h1.run pins s σ H (fun vo H1 => ∃ ι1, Kp ι H ι1 H1 ∧ XRep G.W ι1 H1 σ (.han n) vo ∧ ZR G.W B ι1 H1 σ x2) I ⟨ι, z, _, _, zr, ea, fun vo ι1 H1 k1 r1 zr1 => ⟨ι1, k1, r1, zr1⟩⟩
                refine wpAny_bind (wpAny_holding (thn hrun fun ov s1 ⟨vo, H1, I1, ro, ι1, k1, r1, zr1⟩ => ?_))
                obtain ⟨_, r1⟩ := r1
                unfold Rep at r1
                obtain ⟨a, ha, rfl⟩ := r1
                cases ro
                obtain ⟨C, dx, fvs, hc, hh, cl, rf⟩ := zr1.st.at_ n _ a hx ha
                have rv1 := rv.kp k1 pd
                have hl2 : fs.length < 900 := by have := Nat.le_of_ble_eq_true hl; omega
                have rput := RepF.put hk (fun j hj ej => inj j k hj hk ej) (by rw [hf]; exact na c C hc) pd rv1 rf
                obtain ⟨k2, zr2⟩ := zr1.ins_set hx ha hc hh cl rput
                refine wpAny_bind (wpAny_standAt (wpAny_bind (wpAny_holding (setattr_ok I1 hh (fx.k ▸ cl) (fx.k ▸ na c C hc) (by rw [← rf.len]; omega) r fun s2 I2 => ?_))))
                refine wpAny_release ⟨σ, _, I2, ?_⟩
                rw [hf] at k2 zr2
                exact kk σ ι1 _ (k1.trans k2) zr2
              · cases e1
            · cases e1
          | _ => cases e1
    · cases hs
  · cases hs
end DE
set_option Elab.async false
set_option linter.all false
set_option maxRecDepth 100000
set_option maxHeartbeats 4000000
/-! DE19: a new instance, kept as lasting data; calls with keywords. -/
namespace DE
open PySem PySem.Spec L2
section
variable {X : Cx} {k : Nat} {f C : Addr} {fd : FuncData} {ps : List Str} {sp : Sp} {E : XK}
theorem run_makeG {pins : List (Addr × Obj)} {σ : L2.St} {H : Hp} {s : Shared} {Q : VK} {us : List Value} {vs : List V} (M : Mk X.K C f) (F : FnG X.prog X.w X.K X.mg X.base k f fd ps sp) (hr : Room (k + 1) X.A) (hgd : X.A.guards = some []) (hb : Binds X.K fd ps [])
    (I : Inv X pins σ H s) (r : Vals vs us)
    (h : ∀ x dx, H x = none → H dx = none → dx ≠ x → sp (.ref x :: vs) (upd (upd H dx (.own x)) x (.ins C dx [])) (fun v H2 => v = .non ∧ Q (.ref x) H2) E) :
    wpAny (model X.prog X.w) X.A (call (.ref C) us) (EP X pins σ Q) X.xe s := by
  have hq := h (s.heap.objs.size + 1) s.heap.objs.size (I.hok.fresh (Nat.le_succ _)) (I.hok.fresh (Nat.le_refl _)) (Nat.ne_of_lt (Nat.lt_succ_self _))
  have I2 := Inv.made (C := C) I
  have r2 : Vals (V.ref (s.heap.objs.size + 1) :: vs) (Value.ref (s.heap.objs.size + 1) :: us) := .cons rfl r
  have hl : ((Value.ref (s.heap.objs.size + 1) :: us) ++ []).length = ps.length := by
    have e := r2.length
    rw [F.len _ _ _ _ hq] at e
    rw [List.append_nil]
    exact e.symm
  have hB := hb _ (Value.ref (s.heap.objs.size + 1) :: us) I2.kIn hl
  rw [List.append_nil] at hB
  refine wpAny_call (make_map (f := f) I.kIn M.makes M.init (beq_iff_eq.mp M.fn) (codeAny_mono (F.run _ X.stack _ _ ⟨Value.ref (s.heap.objs.size + 1) :: us, []⟩ (Value.ref (s.heap.objs.size + 1) :: us) _ _ E (hr.make C us [])
    ?_ (I2.env0.make C us []) hB r2 hq) fun r s' hq' => ?_))
  · simp [Around.under, hgd, pushGuards, Code.guards, Code.isGuard, guardIds]
  · cases r with
    | error e => exact hq'.elim
    | ok fl =>
      cases fl with
      | ret u =>
        obtain ⟨v, H', I3, rv, ev, q3⟩ := I2.after hq'
        subst ev
        exact ⟨rv, ⟨V.ref (s.heap.objs.size + 1), H', I3, rfl, q3⟩⟩
      | _ => exact hq'.elim
end
mutual
/-- cells below n alone -/
def noh (n : Nat) : D → Bool
  | .lst ds => nohL n ds
  | .tup ds => nohL n ds
  | .ins _ fs => nohF n fs
  | .han m => Nat.blt m n
  | .brw _ => false
  | .bor _ => false
  | .non => true
  | .bl _ => true
  | .int _ => true
  | .str _ => true
  | .fn _ => true
def nohL (n : Nat) : List D → Bool
  | [] => true
  | d :: ds => noh n d && nohL n ds
def nohF (n : Nat) : List (Nat × D) → Bool
  | [] => true
  | (_, d) :: ds => noh n d && nohF n ds
end
section
variable {W : Wd} {ι : List Addr} {x : Addr} {H : Hp}
mutual
theorem Rep.drop : ∀ (d : D) {v : V}, Rep W (ι ++ [x]) H d v → noh ι.length d = true → Rep W ι H d v
  | .non, _, r, _ => by unfold Rep at r ⊢; exact r
  | .bl _, _, r, _ => by unfold Rep at r ⊢; exact r
  | .int _, _, r, _ => by unfold Rep at r ⊢; exact r
  | .str _, _, r, _ => by unfold Rep at r ⊢; exact r
  | .fn _, _, r, _ => by unfold Rep at r ⊢; exact r
  | .lst ds, v, r, h => by
    unfold Rep at r ⊢
    obtain ⟨l, a, xs, e, f, rl⟩ := r
    exact ⟨l, a, xs, e, f, RepL.dropc ds rl (by unfold noh at h; exact h)⟩
  | .tup ds, v, r, h => by
    unfold Rep at r ⊢
    obtain ⟨l, a, xs, e, f, rl⟩ := r
    exact ⟨l, a, xs, e, f, RepL.dropc ds rl (by unfold noh at h; exact h)⟩
  | .ins c fs, v, r, h => by
    unfold Rep at r ⊢
    obtain ⟨a, C, dx, fvs, e, hc, ha, n, cl, rf⟩ := r
    exact ⟨a, C, dx, fvs, e, hc, ha, fun q => n (List.mem_append_left _ q), cl, RepF.dropc fs rf (by unfold noh at h; exact h)⟩
  | .han m, v, r, h => by
    unfold Rep at r ⊢
    obtain ⟨a, ha, e⟩ := r
    have hm : m < ι.length := by
      unfold noh at h
      have := Nat.le_of_ble_eq_true h
      omega
    rw [List.getElem?_append_left hm] at ha
    exact ⟨a, ha, e⟩
  | .brw _, _, _, h => by unfold noh at h; cases h
  | .bor _, _, _, h => by unfold noh at h; cases h
theorem RepL.dropc : ∀ (ds : List D) {vs : List V}, RepL W (ι ++ [x]) H ds vs → nohL ι.length ds = true → RepL W ι H ds vs
  | [], _, r, _ => by unfold RepL at r ⊢; exact r
  | d :: ds, _, r, h => by
    unfold RepL at r ⊢
    obtain ⟨v, us, e, p, r1, r2⟩ := r
    unfold nohL at h
    rw [Bool.and_eq_true] at h
    exact ⟨v, us, e, p, Rep.drop d r1 h.1, RepL.dropc ds r2 h.2⟩
theorem RepF.dropc {C : Addr} : ∀ (ds : List (Nat × D)) {vs : List (Str × V)}, RepF W (ι ++ [x]) H C ds vs → nohF ι.length ds = true → RepF W ι H C ds vs
  | [], _, r, _ => by unfold RepF at r ⊢; exact r
  | (k, d) :: ds, _, r, h => by
    unfold RepF at r ⊢
    obtain ⟨v, us, e, lt, na, p, r1, r2⟩ := r
    unfold nohF at h
    rw [Bool.and_eq_true] at h
    exact ⟨v, us, e, lt, na, p, Rep.drop d r1 h.1, RepF.dropc ds r2 h.2⟩
end
end
def nohM (n : Nat) : MO → Bool
  | .lst ds => nohL n ds
  | .ins _ fs => nohF n fs
  | .dT kvs => kvs.all fun kv => noh n kv.2
  | .dK kvs => kvs.all fun kv => noh n kv.2
theorem repT_drop {W : Wd} {ι : List Addr} {x : Addr} {H : Hp} {κ : Type} : ∀ {a : List (κ × D)} {b : List (κ × V)}, RepT W (ι ++ [x]) H a b → (a.all fun kv => noh ι.length kv.2) = true → RepT W ι H a b
  | _, _, .nil, _ => .nil
  | _, _, .cons h t, q => by
    rw [List.all_cons, Bool.and_eq_true] at q
    exact .cons ⟨h.1, h.2.1, Rep.drop _ h.2.2 q.1⟩ (repT_drop t q.2)
theorem MRep.drop {W : Wd} {ι : List Addr} {x : Addr} {H : Hp} {a : Addr} : ∀ {m : MO}, MRep W (ι ++ [x]) H a m → nohM ι.length m = true → MRep W ι H a m
  | .lst _, h, q => by obtain ⟨l, xs, e, r⟩ := h; exact ⟨l, xs, e, RepL.dropc _ r q⟩
  | .ins _ _, h, q => by obtain ⟨C, dx, fvs, c, e, cl, r⟩ := h; exact ⟨C, dx, fvs, c, e, cl, RepF.dropc _ r q⟩
  | .dT _, h, q => by obtain ⟨l, xs, e, r⟩ := h; exact ⟨l, xs, e, repT_drop r q⟩
  | .dK _, h, q => by obtain ⟨l, xs, e, r⟩ := h; exact ⟨l, xs, e, repT_drop r q⟩
/-- C(..): what stands in the instance at the end -/
def endMk (n c : Nat) (S : Store) : Option (D × Store) := match S.drop n with
  | [.ins c' fs] => if c' = c ∧ nohF n fs = true ∧ (S.take n).all (nohM n) = true then some (.ins c fs, S.take n) else none
  | _ => none
def fMk (c n : Nat) (g : Fn) (f : EvA) : Ev := fun z => (f z).bind fun x => (lendAll x.2 x.1).bind fun ds => if ds.length = n then (match g (.han x.2.2.length :: ds) (x.2.2 ++ [.ins c []]) with
  | some (.non, S) => (endMk x.2.2.length c S).map fun r => (r.1, (x.2.1, r.2))
  | _ => none) else none
/-- a class under a name -/
structure Mak (P : Program) (w : World) (K : PySem.W.Frag) (mg : Str → Option Value) (base : Heap) (W : Wd) (k : Nat) (x : Str) (c n : Nat) (g : Fn) : Prop where
  ex : ∃ (C f : Addr) (fd : FuncData) (ps : List Str), FnG P w K mg base k f fd ps (spD W (n + 1) g) ∧ mg x = some (.ref C) ∧ Mk K C f ∧ Binds K fd ps [] ∧ W.cls c = some C ∧ Cls K C
theorem fEs {X : Cx} {W : Wd} {B : Bs} : ∀ {vs : List Expr} {fs : List Ev}, PEL X W B vs fs → vs.all notStar = true → PA X vs (tevA W B (fs.foldr fCons fNil))
  | _, _, .nil, _ => pa_nilD
  | _, _, .cons h t, q => by
    rw [List.all_cons, Bool.and_eq_true] at q
    exact pa_consD h (fEs t q.2) (star_ok q.1)
def semMk (c n : Nat) (g : Fn) (fs : List Ev) : Ev := fMk c n g (fs.foldr fCons fNil)
def shCall (x : Str) : Scope → Expr → Option (List Expr) := fun sc e => match e with
  | .Call (.Name y _) (v :: vs) [] _ => if y = x ∧ glb sc y = true ∧ nodbg y = true ∧ (v :: vs).all notStar = true then some (v :: vs) else none
  | _ => none
theorem mkN {G : GX} {lv k : Nat} {x : Str} {c n : Nat} {g : Fn} (hk : k + 1 ≤ lv) (M : Mak G.P G.w G.W.K G.mg G.base G.W k x c n g) : ExtN G lv (shCall x) (semMk c n g) := by
  intro N sc X fx e vs hs fs hp B
  unfold shCall at hs
  split at hs
  · rename_i y p v vs' pos
    split at hs
    · rename_i h
      cases hs
      obtain ⟨rfl, g1, nd, ns⟩ := h
      obtain ⟨C, f, fd, ps, F, hm, mk, bi, hc, cl⟩ := M.ex
      have pa := fEs (hp B) ns
      show PE X _ (tev G.W B (fMk c n g (fs.foldr fCons fNil)))
      generalize fs.foldr fCons fNil = ff at pa
      have ns' := ns
      rw [List.all_cons, Bool.and_eq_true] at ns'
      have gy : Gl X y := show X.env.scope.names.lookup _ = _ by rw [fx.sc]; exact glb_ok g1
      refine ⟨fun pins s σ H Q I q => wpAny_Call_Name_kw (ld_glob I gy (by rw [fx.mg]; exact hm) ?_ (nodbg_ok nd).1)⟩
      have pre : tevA G.W B ff σ H fun us H1 => ∀ a dx, H1 a = none → H1 dx = none → dx ≠ a → spD G.W (n + 1) g (.ref a :: us) (upd (upd H1 dx (.own a)) a (.ins C dx [])) (fun v H2 => v = .non ∧ Q (.ref a) H2) (fun _ _ _ => False) := by
        obtain ⟨ι, z, d, z', zr, e1, kk⟩ := q
        unfold fMk at e1
        cases ea : ff z with
        | none => rw [ea] at e1; cases e1
        | some xx =>
          rw [ea, Option.bind_some] at e1
          cases e2 : lendAll xx.2 xx.1 with
          | none => rw [e2] at e1; cases e1
          | some ds =>
            rw [e2, Option.bind_some] at e1
            split at e1
            · rename_i hn
              split at e1
              · rename_i S e3
                cases e4 : endMk xx.2.2.length c S with
                | none => rw [e4] at e1; cases e1
                | some r =>
                  rw [e4] at e1
                  cases e1
                  refine ⟨ι, z, xx.1, xx.2, zr, ea, fun us ι1 H1 k1 r1 zr1 a dx ha hdx ne => ?_⟩
                  -- the new instance as a cell
                  have hH : ∀ b o, H1 b = some o → (upd (upd H1 dx (.own a)) a (.ins C dx [])) b = some o := fun b o eb => by
                    rw [upd_ne (fun q => by rw [q, ha] at eb; cases eb), upd_ne (fun q => by rw [q, hdx] at eb; cases eb)]; exact eb
                  have hni : a ∉ ι1 := fun q => by obtain ⟨o, eo, _⟩ := zr1.st.mem q; rw [ha] at eo; cases eo
                  have kA : Kp ι1 H1 ι1 (upd (upd H1 dx (.own a)) a (.ins C dx [])) := Kp.same hH
                  have kB : Kp ι1 H1 (ι1 ++ [a]) (upd (upd H1 dx (.own a)) a (.ins C dx [])) := by
                    refine ⟨List.prefix_append _ _, fun b hb nb C' dx' fs' e' => ?_, fun b o eb _ => hH b o eb, fun b C' dx' fs' eb _ => hH b _ eb, fun b eb => ?_⟩
                    · rcases List.mem_append.mp hb with q | q
                      · exact absurd q nb
                      · rw [List.mem_singleton] at q; subst q
                        rw [ha] at e'; cases e'
                    · cases q : H1 b with
                      | none => rfl
                      | some o => rw [hH b o q] at eb; cases eb
                  have st1 : StRep G.W (ι1 ++ [a]) (upd (upd H1 dx (.own a)) a (.ins C dx [])) (xx.2.2 ++ [.ins c []]) := by
                    refine ⟨by simp [zr1.st.len], ?_, fun m mo b e1 e2 => ?_⟩
                    · rw [List.nodup_append]
                      refine ⟨zr1.st.nd, by simp, fun b hb d hd => ?_⟩
                      rw [List.mem_singleton] at hd; subst hd
                      rintro rfl; exact hni hb
                    · by_cases hm : m < xx.2.2.length
                      · rw [List.getElem?_append_left hm] at e1
                        rw [List.getElem?_append_left (by rw [← zr1.st.len]; exact hm)] at e2
                        exact (zr1.st.at_ m mo b e1 e2).kp kB fun o eo => hH b o eo
                      · have hm' : xx.2.2.length ≤ m := by omega
                        rw [List.getElem?_append_right hm'] at e1
                        rw [List.getElem?_append_right (by rw [← zr1.st.len]; exact hm'), ← zr1.st.len] at e2
                        cases q : m - xx.2.2.length with
                        | zero =>
                          rw [q] at e1 e2; simp at e1 e2; subst e1; subst e2
                          exact ⟨C, dx, [], hc, upd_same, cl, by unfold RepF; rfl⟩
                        | succ j => rw [q] at e1; simp at e1
                  have hself : Rep G.W (ι1 ++ [a]) (upd (upd H1 dx (.own a)) a (.ins C dx [])) (.han xx.2.2.length) (.ref a) := by
                    unfold Rep
                    exact ⟨a, by rw [zr1.st.len]; simp, rfl⟩
                  have hargs : Paired (Rep G.W (ι1 ++ [a]) (upd (upd H1 dx (.own a)) a (.ins C dx []))) ds us := by
                    have hl := lendAll_rep zr1 r1 e2
                    refine Paired.mapP hl fun p q rp => ?_
                    cases p with
                    | brw l =>
                      unfold Rep at rp ⊢
                      obtain ⟨h1, b, xs, h2, h3, h4, h5⟩ := rp
                      refine ⟨h1, b, xs, h2, hH b _ h3, ?_, h5.kp kB⟩
                      simp only [List.mem_append, List.mem_singleton, not_or]
                      exact ⟨h4, fun qq => by rw [qq, ha] at h3; cases h3⟩
                    | bor i => unfold Rep at rp; exact rp.elim
                    | _ => exact rp.kp kB rfl
                  refine ⟨ι1 ++ [a], xx.2.2 ++ [.ins c []], .han xx.2.2.length :: ds, .non, S, by rw [List.length_cons, hn], .cons hself hargs, st1, e3, fun v ι2 H2 c2 st2 _ rv => ?_⟩
                  unfold Rep at rv
                  refine ⟨rv, ?_⟩
                  unfold endMk at e4
                  split at e4
                  · rename_i c' fs' hd
                    split at e4
                    · rename_i hh
                      cases e4
                      obtain ⟨rfl, nf, nm⟩ := hh
                      have hlen : S.length = xx.2.2.length + 1 := by
                        have h1 := congrArg List.length hd
                        rw [List.length_drop] at h1
                        simp at h1
                        omega
                      have hι : ι2 = ι1 ++ [a] := by
                        obtain ⟨t, ht⟩ := c2.pre
                        have h1 := st2.len
                        rw [← ht, hlen, zr1.st.len] at h1
                        simp at h1
                        rw [← ht, h1, List.append_nil]
                      subst hι
                      have hget : S[xx.2.2.length]? = some (.ins c' fs') := by
                        have := congrArg List.head? hd
                        rw [List.head?_drop] at this
                        simpa using this
                      obtain ⟨C', dx', fvs, hc', hh', cl', rf⟩ := st2.at_ _ _ a hget (by rw [zr1.st.len]; simp)
                      rw [hc] at hc'; cases hc'
                      rw [zr1.st.len] at nf nm
                      have ck : CKp ι1 H1 ι1 H2 := ⟨List.prefix_refl _, fun b hb nb => absurd hb nb, fun b o eb nb => by
                        refine c2.keep b o (hH b o eb) ?_
                        simp only [List.mem_append, List.mem_singleton, not_or]
                        exact ⟨nb, fun q => by rw [q, ha] at eb; cases eb⟩⟩
                      have st3 : StRep G.W ι1 H2 (S.take xx.2.2.length) := by
                        refine ⟨by rw [List.length_take, hlen, ← zr1.st.len]; omega, zr1.st.nd, fun m mo b e1 e2 => ?_⟩
                        have hm : m < xx.2.2.length := by
                          have := (List.getElem?_eq_some_iff.mp e1).1
                          rw [List.length_take] at this
                          omega
                        have hmem : mo ∈ S.take xx.2.2.length := List.mem_of_getElem? e1
                        rw [List.getElem?_take_of_lt hm] at e1
                        refine (st2.at_ m mo b e1 (by rw [List.getElem?_append_left (by rw [← zr1.st.len]; exact hm)]; exact e2)).drop ?_
                        rw [List.all_eq_true] at nm
                        have := nm mo (by rw [zr1.st.len] at hmem; exact hmem)
                        exact this
                      have zr3 := zr1.call ck st3
                      refine kk (.ref a) ι1 H2 (k1.trans (ck.kp st3 fun b hb => zr1.st.mem hb)) ⟨rfl, ?_⟩ zr3
                      unfold Rep
                      exact ⟨a, C, dx', fvs, rfl, hc, hh', hni, cl, RepF.dropc fs' rf nf⟩
                    · cases e4
                  · cases e4
              · cases e1
            · cases e1
      have mk' : Mk X.K C f := fx.k ▸ mk
      have F' : FnG X.prog X.w X.K X.mg X.base k f fd ps (spD G.W (n + 1) g) := by rw [fx.pr, fx.hw, fx.k, fx.mg, fx.bs]; exact F
      refine PySem.W.callWith_K (h₀ := X.base) I.ok.mod.kin mk'.kp (thn (pa.run pos pins s σ H _ I pre) fun us s1 ⟨vs1, H1, I1, r, q1⟩ => ⟨I1.kIn, ?_⟩) (star_ok ns'.1) (any_ok ns'.2)
      exact run_makeG mk' F' (fx.room.mono hk) fx.gd (fx.k ▸ bi) I1 r q1
    · cases hs
  · cases hs
end DE
set_option Elab.async false
set_option linter.all false
set_option maxRecDepth 100000
set_option maxHeartbeats 4000000
/-! DE20: calls with keywords; a dict display at a key; enumerate. -/
namespace DE
open PySem PySem.Spec L2
/-! ### f(k = v, ..) -/
def pick {α : Type} (l : List α) : List Nat → Option (List α)
  | [] => some []
  | i :: r => (l[i]?).bind fun x => (pick l r).map (x :: ·)
theorem pick_paired {α β : Type} {F : α → β → Prop} {l : List α} {m : List β} (h : Paired F l m) : ∀ {pm : List Nat} {as : List α}, pick l pm = some as → ∃ bs, pick m pm = some bs ∧ Paired F as bs
  | [], _, e => by cases e; exact ⟨[], rfl, .nil⟩
  | i :: r, as, e => by
    have e : ((l[i]?).bind fun x => (pick l r).map (x :: ·)) = some as := e
    cases e1 : l[i]? with
    | none => rw [e1] at e; cases e
    | some x =>
      rw [e1, Option.bind_some] at e
      cases e2 : pick l r with
      | none => rw [e2] at e; cases e
      | some t =>
        rw [e2] at e; cases e
        obtain ⟨bs, q1, q2⟩ := pick_paired h e2
        have hg : ∀ {l : List α} {m : List β} {i : Nat} {x : α}, Paired F l m → l[i]? = some x → ∃ y, m[i]? = some y ∧ F x y := by
          intro l m i x hp
          induction hp generalizing i with
          | nil => intro e; simp at e
          | cons h t ih =>
            intro e
            cases i with
            | zero => simp at e; subst e; exact ⟨_, rfl, h⟩
            | succ j => simp at e; obtain ⟨y, h1, h2⟩ := ih e; exact ⟨y, by simpa using h1, h2⟩
        obtain ⟨y, h1, h2⟩ := hg h e1
        refine ⟨y :: bs, ?_, .cons h2 q2⟩
        show ((m[i]?).bind fun x => (pick m r).map (x :: ·)) = _
        rw [h1, Option.bind_some, q1]; rfl
structure CalK (P : Program) (w : World) (K : PySem.W.Frag) (mg : Str → Option Value) (base : Heap) (W : Wd) (k : Nat) (x : Str) (n : Nat) (g : Fn) (ks : List Str) (pm : List Nat) : Prop where
  ex : ∃ (f : Addr) (fd : FuncData) (ps : List Str), FnG P w K mg base k f fd ps (spD W n g) ∧ mg x = some (.ref f) ∧ PySem.W.keepIn K (.ref f) = true ∧ ∀ (s : Shared) (ws as : List Value), ws.length = ks.length → pick ws pm = some as → BindsTo s fd ⟨[], ks.zip ws⟩ (ps.zip as)
def fCallK (n : Nat) (g : Fn) (m : Nat) (pm : List Nat) (f : EvA) : Ev := fun z => (f z).bind fun x => (lendAll x.2 x.1).bind fun ds => if ds.length = m then (pick ds pm).bind fun as => if as.length = n then (g as x.2.2).map fun r => (r.1, (x.2.1, r.2)) else none else none
def semCallK (n : Nat) (g : Fn) (m : Nat) (pm : List Nat) (fs : List Ev) : Ev := fCallK n g m pm (fs.foldr fCons fNil)
def kwsOk (ks : List Str) : List Keyword → Bool
  | [] => ks.isEmpty
  | q :: r => (match ks with
    | k :: t => decide (q.arg = some k) && kwsOk t r
    | [] => false)
def shCallK (x : Str) (ks : List Str) : Scope → Expr → Option (List Expr) := fun sc e => match e with
  | .Call (.Name y _) [] kws _ => if y = x ∧ glb sc y = true ∧ nodbg y = true ∧ kwsOk ks kws = true then some (kws.map (·.value)) else none
  | _ => none
theorem kws_ok {env : Env} {pos : Pos} : ∀ {kws : List Keyword} {ks : List Str}, kwsOk ks kws = true → (backToKw pos (keywordEach kws env)).all (·.1.isSome) = true ∧ (backToKw pos (keywordEach kws env)).filterMap (·.1) = ks ∧ (backToKw pos (keywordEach kws env)).any (·.1.isNone) = false ∧ kws.length = ks.length
  | [], ks, h => by
    cases ks with
    | nil => exact ⟨rfl, rfl, rfl, rfl⟩
    | cons _ _ => cases h
  | q :: r, ks, h => by
    cases ks with
    | nil => cases h
    | cons k t =>
      unfold kwsOk at h
      simp only [Bool.and_eq_true, decide_eq_true_eq] at h
      obtain ⟨nm, va, po⟩ := q
      have h1 : nm = some k := h.1
      subst h1
      obtain ⟨a, b, c, d⟩ := kws_ok (env := env) (pos := pos) h.2
      refine ⟨?_, ?_, ?_, by simp [d]⟩
      · show (true && _) = true
        rw [Bool.true_and]; exact a
      · show k :: _ = k :: t
        exact congrArg (k :: ·) b
      · show (false || _) = false
        rw [Bool.false_or]; exact c
theorem fKs {X : Cx} {W : Wd} {B : Bs} : ∀ {kws : List Keyword} {fs : List Ev}, PEL X W B (kws.map (·.value)) fs → PK X kws (tevA W B (fs.foldr fCons fNil))
  | [], _, h => by
    cases h
    refine ⟨fun pos pins s σ H Q I q => pk_nil.run pos pins s σ H Q I ?_⟩
    obtain ⟨ι, z, ds, z', zr, e1, k⟩ := q
    cases e1
    exact k [] ι H .refl .nil zr
  | ⟨nm, va, po⟩ :: r, _, h => by
    cases h with
    | cons h t =>
      rename_i fa ft
      refine ⟨fun pos pins s σ H Q I q => (pk_cons h (fKs t)).run pos pins s σ H Q I ?_⟩
      obtain ⟨ι, z, ds, z', zr, e1, k⟩ := q
      replace e1 : fCons fa (ft.foldr fCons fNil) z = some (ds, z') := e1
      unfold fCons at e1
      cases ea : fa z with
      | none => rw [ea] at e1; cases e1
      | some x =>
        rw [ea, Option.bind_some] at e1
        cases eb : ft.foldr fCons fNil x.2 with
        | none =>
          replace e1 : ((ft.foldr fCons fNil x.2).map fun y => (x.1 :: y.1, y.2)) = some (ds, z') := e1
          rw [eb] at e1; cases e1
        | some y =>
          replace e1 : ((ft.foldr fCons fNil x.2).map fun y => (x.1 :: y.1, y.2)) = some (ds, z') := e1
          rw [eb] at e1; cases e1
          exact ⟨ι, z, x.1, x.2, zr, ea, fun v ι1 H1 k1 r1 zr1 => ⟨ι1, x.2, y.1, y.2, zr1, eb, fun vs ι2 H2 k2 r2 zr2 => k (v :: vs) ι2 H2 (k1.trans k2) (.cons (r1.kp k2) r2) zr2⟩⟩
theorem callKN {G : GX} {lv k : Nat} {x : Str} {n : Nat} {g : Fn} {ks : List Str} {pm : List Nat} (hk : k ≤ lv) (C : CalK G.P G.w G.W.K G.mg G.base G.W k x n g ks pm) : ExtN G lv (shCallK x ks) (semCallK n g ks.length pm) := by
  intro N sc X fx e vs hs fs hp B
  unfold shCallK at hs
  split at hs
  · rename_i y p kws pos
    split at hs
    · rename_i h
      cases hs
      obtain ⟨rfl, g1, nd, ko⟩ := h
      obtain ⟨f, fd, ps, F, hm, kp, bi⟩ := C.ex
      have pk := fKs (hp B)
      show PE X _ (tev G.W B (fCallK n g ks.length pm (fs.foldr fCons fNil)))
      generalize fs.foldr fCons fNil = ff at pk
      have gy : Gl X y := show X.env.scope.names.lookup _ = _ by rw [fx.sc]; exact glb_ok g1
      obtain ⟨a1, a2, a3, a4⟩ := kws_ok (env := X.env) (pos := pos) ko
      refine ⟨fun pins s σ H Q I q => wpAny_Call_Name_kw (ld_glob I gy (by rw [fx.mg]; exact hm) ?_ (nodbg_ok nd).1)⟩
      have pre : tevA G.W B ff σ H fun us H1 => us.length = ks.length ∧ ∃ as, pick us pm = some as ∧ spD G.W n g as H1 Q (fun _ _ _ => False) := by
        obtain ⟨ι, z, d, z', zr, e1, kk⟩ := q
        unfold fCallK at e1
        cases ea : ff z with
        | none => rw [ea] at e1; cases e1
        | some xx =>
          rw [ea, Option.bind_some] at e1
          cases e2 : lendAll xx.2 xx.1 with
          | none => rw [e2] at e1; cases e1
          | some ds =>
            rw [e2, Option.bind_some] at e1
            split at e1
            · rename_i hn
              cases e3 : pick ds pm with
              | none => rw [e3] at e1; cases e1
              | some as =>
                rw [e3, Option.bind_some] at e1
                split at e1
                · rename_i hn2
                  cases e4 : g as xx.2.2 with
                  | none => rw [e4] at e1; cases e1
                  | some r =>
                    rw [e4] at e1
                    cases e1
                    refine ⟨ι, z, xx.1, xx.2, zr, ea, fun us ι1 H1 k1 r1 zr1 => ?_⟩
                    have hl := lendAll_rep zr1 r1 e2
                    obtain ⟨bs, q1, q2⟩ := pick_paired hl e3
                    refine ⟨by rw [← hn, Paired.length hl], bs, q1, ι1, xx.2.2, as, r.1, r.2, hn2, q2, zr1.st, e4, fun v ι2 H2 c2 st2 p rp => ?_⟩
                    exact kk v ι2 H2 (k1.trans (c2.kp st2 fun a ha => zr1.st.mem ha)) (XRep.of p rp) (zr1.call c2 st2)
                · cases e1
            · cases e1
      have F' : FnG X.prog X.w X.K X.mg X.base k f fd ps (spD G.W n g) := by rw [fx.pr, fx.hw, fx.k, fx.mg, fx.bs]; exact F
      refine PySem.W.callWith_KW0 (first := []) (h₀ := X.base) I.ok.mod.kin (fx.k ▸ kp) a1 (thn (pk.run pos pins s σ H _ I pre) fun us s1 ⟨vs1, H1, I1, r, q1⟩ => ⟨I1.kIn, ?_⟩) (by rw [a3]; rfl)
      rw [a2]
      obtain ⟨l1, as, q2, q3⟩ := q1
      obtain ⟨bs, q4, q5⟩ := pick_paired r q2
      refine wpAny_call (codeAny_mono (back0 I1 (F'.run X.A X.stack s1 H1 ⟨[], ks.zip us⟩ bs as Q _ (fx.room.mono hk) fx.gd I1.env0 (bi s1 us bs (by rw [← r.length]; exact l1) q4) q5 q3)) fun r s' hq => ?_)
      cases r with
      | error e => exact hq
      | ok fl => cases fl <;> exact hq
    · cases hs
  · cases hs
/-! ### enumerate -/
section
variable {prog : Program} {w : World} {A : Around} {E : Value → Shared → Prop} {s : Shared}
open AutoSeq1 (wpAny_loadPart')
theorem meets_enumT (l : Addr) (items : Array Value) (n : Nat) (dct : Option Addr) (sl : Array (Option Value)) :
    Meets (Builtin.«enumerate.__new__» ⟨[.type "enumerate", .ref l], []⟩) (fun _ R s => s.heap.get? l = some { cls := .type "tuple", dict := dct, data := .seq items n, slots := sl } ∧
      R (.ok (.ret (.ref (s.heap.push { cls := .type "tuple_iterator", data := .fields #[.ref l, .int 0 0] }).objs.size)))
        { s with heap := (s.heap.push { cls := .type "tuple_iterator", data := .fields #[.ref l, .int 0 0] }).push { cls := .type "enumerate", data := .fields #[.none, .bool false, .ref s.heap.objs.size, rawInt 0, .none, .none] } }) :=
  .of_wp fun prog w A R s h => by
    obtain ⟨hp, g, d, tk, os⟩ := s; obtain ⟨hl, h⟩ := h
    have hsub := sub_enumerate
    have hL : Heap.IsTuple (Shared.heap ⟨hp, g, d, tk, os⟩) l items := ⟨_, hl, rfl, n, rfl⟩
    wp_walk using wpAny_loadPart' hl
    refine wpAny_stack_any fun st => wpAny_pure ?_
    split
    · rename_i c _ _ _ _ _
      cases (c == Value.type "enumerate")
      · wp_walk using wpAny_loadPart' hl, wpAny_pyIter_tuple hL
        exact ⟨_, rfl, h⟩
      · wp_walk using wpAny_loadPart' hl, wpAny_pyIter_tuple hL
        exact ⟨_, rfl, h⟩
    · wp_walk using wpAny_loadPart' hl, wpAny_pyIter_tuple hL
      exact ⟨_, rfl, h⟩
theorem call_enumT {l : Addr} {items : Array Value} {Q : Value → Shared → Prop} (hL : s.heap.IsTuple l items)
    (h : ∀ h', IsEnum h' (s.heap.objs.size + 1) s.heap.objs.size 0 .none → h'.IsTupleIter s.heap.objs.size l 0 → h'.objs.size = s.heap.objs.size + 2 →
      (∀ b o, s.heap.get? b = some o → h'.get? b = some o) → Q (.ref (s.heap.objs.size + 1)) { s with heap := h' }) :
    wpAny (model prog w) A (call (.type "enumerate") [.ref l]) Q E s := by
  obtain ⟨⟨c, dct, dt, sl⟩, hl, hc, n, hd⟩ := hL
  replace hc : c = .type "tuple" := hc
  replace hd : dt = .seq items n := hd
  subst hc hd
  refine callType_new F.called_enumerate (by decide) (F.typeCall_enumerate_1 _) (F.newCall_enumerate_1 _) (fun obj => F.args_object_init_2 obj _) F.entry_enumerate_new
    (meets_enumT l items n dct sl) ⟨hl, ?_⟩
  have hz : (s.heap.push { cls := .type "tuple_iterator", data := .fields #[.ref l, .int 0 0] }).objs.size = s.heap.objs.size + 1 := Heap.size_push ..
  show _ ∧ _
  rw [hz]
  have he : IsEnum ((s.heap.push { cls := .type "tuple_iterator", data := .fields #[.ref l, .int 0 0] }).push
      { cls := .type "enumerate", data := .fields #[.none, .bool false, .ref s.heap.objs.size, rawInt 0, .none, .none] }) (s.heap.objs.size + 1) s.heap.objs.size 0 .none := by
    have := Heap.get?_push_size (s.heap.push { cls := .type "tuple_iterator", data := .fields #[.ref l, .int 0 0] })
      (o := { cls := .type "enumerate", data := .fields #[.none, .bool false, .ref s.heap.objs.size, rawInt 0, .none, .none] }) rfl
    rw [hz] at this; exact this
  refine ⟨⟨_, he, rfl⟩, h _ he ⟨_, Heap.get?_push_of_some _ (Heap.get?_push_size _ rfl), rfl, rfl⟩ (by rw [Heap.size_push, hz]) fun b o x => Heap.get?_push_of_some _ (Heap.get?_push_of_some _ x)⟩
end
section
variable {prog : Program} {w : World} {A : Around} {E : Value → Shared → Prop} {s : Shared}
theorem next_enumT_end {e it l : Addr} {i : Nat} {c : Int} {items : Array Value} {old : Value} {Q : Option Value → Shared → Prop} (hh : A.handled = none) (he : IsEnum s.heap e it c old) (hit : s.heap.IsTupleIter it l i) (hl : s.heap.IsTuple l items) (hx : items[i]? = none)
    (hQ : ∀ h', Heap.ExtBut it s.heap h' → Q none { s with heap := h' }) : wpAny (model prog w) A (pyNext (.ref e)) Q E s := by
  have hT : s.TypeIs (.ref e) "enumerate" := ⟨_, he, rfl⟩
  unfold pyNext
  refine wpAny_bind (wpAny_attempt (wpAny_callSpecial?_slot (name := Str.ofString "__next__") hT F.slot_enumerate_next
    (wpAny_call_entry F.slot_enumerate_next hT F.entry_enumerate_next ?_ (F.args_enumerate_next_1 _))))
  show wpAny _ _ (field (.ref e) 2 >>= _) _ _ _
  refine wpAny_bind (wpAny_field he rfl (x := .ref it) rfl ?_)
  refine wpAny_bind (RZ.nextOf_tuple_end hh hit hl hx fun h' x he' hx' => ?_)
  obtain ⟨o, ho, hc⟩ := hx'
  refine wpAny_bind (wpAny_isInstance (T := "StopIteration") (b := true) ⟨o, ho, hc⟩ isSubtype_stop ?_)
  exact wpAny_pure (hQ _ he')
end
/-- the tuple at a, each item in a new pair -/
def ItET (K : PySem.W.Frag) (a : Addr) : It :=
  ⟨fun i H => ∃ (xs : List V) (x : V), SqT K H a xs ∧ xs[i]? = some x, fun i H v H' => ∃ T x, v = .ref T ∧ H T = none ∧ H' = upd H T (.tup [.int (i : Nat), x]) ∧ ∀ xs, SqT K H a xs → xs[i]? = some x, fun i H => ∃ xs : List V, SqT K H a xs ∧ xs.length ≤ i⟩
theorem turn_enumT {P : Program} {w : World} {K : PySem.W.Frag} {elts : List Expr} {kk : Nat} {tpos : Pos} (a e it : Addr) (hai : a ≠ it) (hae : a ≠ e) :
    Turn P w K (.Tuple elts kk tpos) (ItET K a) [e, it] e (fun i h => (∃ old, IsEnum h e it ((i : Nat) : Int) old) ∧ h.IsTupleIter it a i ∧ e ≠ it) where
  mem := by simp
  obj := fun i h st b hb => by
    obtain ⟨⟨old, he⟩, ⟨o, ho, hc, hd⟩, _⟩ := st
    have e' : b = e ∨ b = it := by simpa using hb
    rcases e' with z | z
    · rw [z]; exact ⟨_, he, fun v q => nomatch q⟩
    · rw [z]; exact ⟨o, ho, fun v q => by rw [hd] at q; cases q⟩
  keep := fun i h h' st k => let ⟨⟨old, he⟩, hi, hne⟩ := st; ⟨⟨old, k e (by simp) _ he⟩, hi.at fun o q => k it (by simp) o q, hne⟩
  item := by
    intro X hP hw hK hc i pins s σ H E I hf st hg
    subst hP hw hK
    obtain ⟨⟨old, he⟩, hit, hne⟩ := st
    obtain ⟨xs, x, hq, hx⟩ := hg
    obtain ⟨its, rv, p, hz⟩ := I.tuple hq
    have hel : e < s.heap.objs.size := Heap.lt_size he
    have hil : it < s.heap.objs.size := by obtain ⟨_, q, _⟩ := hit; exact Heap.lt_size q
    have hlt : i < its.toArray.size := by
      rw [List.size_toArray, ← rv.length]
      exact (List.getElem?_eq_some_iff.mp hx).1
    have Dr := Draws.tuple (prog := X.prog) (w := X.w) (A := X.A.in1) (I.ok.hd hc) it a hai its.toArray
    refine wpAny_pyNext_enum_itemD Dr he ⟨hit, p⟩ hlt hne (by simp only [List.mem_cons, List.not_mem_nil, or_false, not_or]; exact ⟨hne, Ne.symm hae⟩) fun u h' tk hPu ho hst hT hsz hk => ?_
    have hu : its[i]? = some u := by simpa using hPu
    obtain ⟨u', hu', ru'⟩ := rv.get hx
    rw [hu] at hu'
    cases hu'
    refine ⟨_, rfl, wpAny_letOwnedTupleGo_enum (s := { s with heap := h', toks := tk + 1 }) ho fun h'' he' sb => ?_⟩
    have hT2 : h''.get? s.heap.objs.size = some { cls := .type "tuple", data := .seq #[.int i tk, u] } := (sb.2 _ (Nat.ne_of_gt hel)).trans hT
    have new : ObjOk X.prog X.w (upd H s.heap.objs.size (.tup [.int (i : Nat), x])) h'' s.heap.objs.size (.tup [.int (i : Nat), x]) :=
      ⟨by show 2 ≤ sizeLine; decide, [.int i tk, u], .cons ⟨_, rfl⟩ (.cons ru' .nil), ⟨_, hT2, rfl, _, rfl⟩⟩
    have I1 : Inv X pins σ (upd H s.heap.objs.size (.tup [.int (i : Nat), x])) { s with heap := h'', toks := tk + 1 } :=
      I.turnedNew (ch := [e, it]) (fun b ob hb q => (sb.2 b (fun z => hb (by simp [z]))).trans (hk b ob (fun z => hb (by simp [z])) (fun z => hb (by simp [z])) q)) hf (Nat.le_refl _) new
    refine ⟨.ref s.heap.objs.size, _, I1, rfl, ⟨_, x, rfl, I.hok.fresh (Nat.le_refl _), rfl, fun ys hy => by rw [I.tuple_inj hy hq]; exact hx⟩, ⟨⟨u, ?_⟩, hst.1.at fun o q => (sb.2 it (Ne.symm hne)).trans q, hne⟩, fun b hb => ?_⟩
    · have e1 : ((i + 1 : Nat) : Int) = (i : Int) + 1 := by omega
      rw [e1]; exact he'
    · have hb' : b < s.heap.objs.size := by
        have e' : b = e ∨ b = it := by simpa using hb
        rcases e' with z | z
        · rw [z]; exact hel
        · rw [z]; exact hil
      rw [upd_ne (Nat.ne_of_lt hb')]
      exact (hf b hb).1
  done := by
    intro X hP hw hK hc i pins s σ H E I hf st hg
    subst hP hw hK
    obtain ⟨⟨old, he⟩, hit, hne⟩ := st
    obtain ⟨xs, hq, hx⟩ := hg
    obtain ⟨its, rv, p, hz⟩ := I.tuple hq
    obtain ⟨f0, f1, f2, f3, f4, f5⟩ := hf it (by simp)
    have hl := rv.length
    exact next_enumT_end (I.ok.hd hc) he hit p (by simp; omega) fun h' eb => ⟨rfl, I.turned (t' := s.toks) (fun b o hb q => eb b o hb q) f0 f1 f3 f4 f5⟩
  self := fun A i s Q E st h => let ⟨⟨_, he⟩, _⟩ := st; wpAny_pyIter_enum he h
def iEnumT (K : PySem.W.Frag) (ta : TA) : TI := fun σ H R => ta σ H fun vs H1 => ∃ a xs, vs = [.ref a] ∧ ((SqL K H1 a xs ∧ R (Ite K a) H1) ∨ (SqT K H1 a xs ∧ R (ItET K a) H1))
theorem pi_enumA {X : Cx} {e : Expr} {ta : TA} {p pos tpos : Pos} {elts : List Expr} {kk : Nat} (hg : Gl X "enumerate") (hm : X.mg "enumerate" = none) (ha : PA X [e] ta) (hs : starEach [e] X.env = [(false, eval e X.env)]) :
    PI X (.Tuple elts kk tpos) (.Call (.Name "enumerate" p) [e] [] pos) (iEnumT X.K ta) := by
  refine ⟨fun pins s σ H R I h => ?_⟩
  refine PyProof.Rows.Call_ (ld_blt I hg hm PyProof.Rows.boot_enumerate (PyProof.Rows.callWith_type1 (thn (ha.run pos pins s σ H _ I h) fun us s1 ⟨vs, H1, I1, r1, q1⟩ => ?_) hs rfl))
  obtain ⟨a, xs, ex, q1⟩ := q1
  subst ex
  cases r1 with
  | cons r rr =>
    cases rr
    cases r
    have fpo : ∀ b ∈ [s1.heap.objs.size + 1, s1.heap.objs.size], s1.heap.objs.size ≤ b := fun b hb => by
      have e' : b = s1.heap.objs.size + 1 ∨ b = s1.heap.objs.size := by simpa using hb
      rcases e' with z | z
      · rw [z]; exact Nat.le_add_right _ _
      · rw [z]; exact Nat.le_refl _
    rcases q1 with ⟨hq, q⟩ | ⟨hq, q⟩
    · obtain ⟨its, rv, p', hz⟩ := I1.list hq
      refine call_enumerate_list p'.isList fun h' he hit hsz hk => wpAny_pyIter_enum he ?_
      have I2 : Inv X pins σ H1 { s1 with heap := h' } := I1.kept (t' := s1.toks) hk
      exact ⟨s1.heap.objs.size + 1, [s1.heap.objs.size + 1, s1.heap.objs.size], _, _, H1, rfl, I2, turn_enum a (s1.heap.objs.size + 1) s1.heap.objs.size, ⟨⟨.none, he⟩, hit, Nat.succ_ne_self _⟩, fun b hb => I1.fpOk (fpo b hb) (I1.hok.fresh (fpo b hb)), q⟩
    · obtain ⟨its, rv, p', hz⟩ := I1.tuple hq
      have hlt : a < s1.heap.objs.size := by obtain ⟨o, ho, _⟩ := p'; exact Heap.lt_size ho
      refine call_enumT (show s1.heap.IsTuple a its.toArray from p') fun h' he hit hsz hk => wpAny_pyIter_enum he ?_
      have I2 : Inv X pins σ H1 { s1 with heap := h' } := I1.kept (t' := s1.toks) hk
      exact ⟨s1.heap.objs.size + 1, [s1.heap.objs.size + 1, s1.heap.objs.size], _, _, H1, rfl, I2, turn_enumT a (s1.heap.objs.size + 1) s1.heap.objs.size (Nat.ne_of_lt hlt) (Nat.ne_of_lt (Nat.lt_succ_of_lt hlt)), ⟨⟨.none, he⟩, hit, Nat.succ_ne_self _⟩, fun b hb => I1.fpOk (fpo b hb) (I1.hok.fresh (fpo b hb)), q⟩
theorem walk_enumT {K : PySem.W.Frag} {a : Addr} {xs : List V} : Walk (ItET K a) xs.length (fun H => SqT K H a xs) (YPair (fun i => some (.int (i : Nat))) (fun i => xs[i]?)) := by
  refine ⟨fun i _ hi q => ⟨xs, xs[i], q, by simp [hi]⟩, fun _ q => ⟨xs, q, Nat.le_refl _⟩, fun i H v H' _ q y => ?_⟩
  obtain ⟨T, x, h1, h2, h3, h4⟩ := y
  exact ⟨T, .int (i : Nat), x, h1, h2, h3, rfl, h4 xs q⟩
/-- the pairs of enumerate -/
def enumL (ds : List D) : List D := zipT (rngL 0 ds.length) ds
theorem enum_pair {ys : List V} {J : It} {G : Hp → Prop} (w : Walk J ys.length G (YPair (fun i => some (.int (i : Nat))) (fun i => ys[i]?))) : Walk J ys.length G (YPair (fun i => ((List.range ys.length).map fun i => V.int (0 + (i : Nat)))[i]?) (fun i => ys[i]?)) :=
  ⟨w.goes, w.stops, fun i H x H' hi g y => by
    obtain ⟨T, u, v, h1, h2, h3, h4, h5⟩ := w.yields i H x H' hi g y
    refine ⟨T, u, v, h1, h2, h3, ?_, h5⟩
    have e : ((List.range ys.length).map fun i => V.int (0 + (i : Nat)))[i]? = some (.int (0 + (i : Nat))) := by rw [List.getElem?_map, List.getElem?_range hi]; rfl
    show ((List.range ys.length).map fun i => V.int (0 + (i : Nat)))[i]? = some u
    rw [e, Int.zero_add]
    exact h4⟩
def fEnum (fa : Ev) : EvA := fun z => (fa z).bind fun x => (match x.1 with
  | .lst ds => some (enumL ds, x.2)
  | .tup ds => some (enumL ds, x.2)
  | _ => none)
def semEnum : List Ev → EvA
  | [fa] => fEnum fa
  | _ => fun _ => none
def shEnum : Scope → Expr → Expr → Option (List Expr) := fun sc e tg => match e, tg with
  | .Call (.Name y _) [v] [] _, .Tuple _ _ _ => if y = "enumerate" ∧ glb sc y = true ∧ notStar v = true then some [v] else none
  | _, _ => none
theorem enumN {G : GX} {lv : Nat} (h1 : G.mg "enumerate" = none) : ExtI G lv shEnum semEnum := by
  intro N sc X fx e tg vs hs fs hp B
  unfold shEnum at hs
  split at hs
  · rename_i y p v pos es n tp
    split at hs
    · rename_i h
      cases hs
      obtain ⟨rfl, g1, ns⟩ := h
      cases hp B with
      | cons hv ht =>
        cases ht
        rename_i fa
        refine pi_mono (pi_enumA (show X.env.scope.names.lookup _ = _ by rw [fx.sc]; exact glb_ok g1) (by rw [fx.mg]; exact h1) (pa_consD hv pa_nilD (star_ok ns)) (star_ok ns)) fun σ H R q => ?_
        obtain ⟨ι, z, d, z', zr, e1, kk⟩ := q
        replace e1 : fEnum fa z = some (d, z') := e1
        unfold fEnum at e1
        cases ea : fa z with
        | none => rw [ea] at e1; cases e1
        | some x =>
          rw [ea, Option.bind_some] at e1
          have ec : fCons fa fNil z = some ([x.1], x.2) := by unfold fCons; rw [ea]; rfl
          refine ⟨ι, z, [x.1], x.2, zr, ec, fun us ι1 H1 k1 r1 zr1 => ?_⟩
          cases r1 with
          | cons r1 rt =>
            cases rt
            obtain ⟨x1, x2⟩ := x
            have hl0 : ∀ n : Nat, (rngL 0 n).length = n := fun n => by simp [rngL]
            cases x1 with
            | lst ds =>
              cases e1
              have r2 := r1.rep rfl
              unfold Rep at r2
              obtain ⟨_, a, xs, rfl, fz, rl⟩ := r2
              refine ⟨a, xs, rfl, .inl ⟨fx.k ▸ fz.sq, kk _ (fun H => Fz G.W.K H a xs) ι1 H1 k1 zr1 (wlk_pair (repL_rng 0 ds.length) rl ?_ (by rw [hl0, Nat.min_self])) fz fun ι2 H2 k2 => fz_kp k2 fz⟩⟩
              rw [rl.length]
              exact enum_pair (walk_enum.mono (fun _ h => fx.k ▸ h.sq) fun _ _ _ _ _ _ y => y)
            | tup ds =>
              cases e1
              have r2 := r1.rep rfl
              unfold Rep at r2
              obtain ⟨_, a, xs, rfl, fz, rl⟩ := r2
              refine ⟨a, xs, rfl, .inr ⟨fx.k ▸ fz, kk _ (fun H => SqT G.W.K H a xs) ι1 H1 k1 zr1 (wlk_pair (repL_rng 0 ds.length) rl ?_ (by rw [hl0, Nat.min_self])) fz fun ι2 H2 k2 => fz_sqT k2.fz fz⟩⟩
              rw [rl.length]
              exact enum_pair (walk_enumT.mono (fun _ h => fx.k ▸ h) fun _ _ _ _ _ _ y => y)
            | _ => cases e1
    · cases hs
  · cases hs
end DE
set_option Elab.async false
set_option linter.all false
set_option maxRecDepth 100000
set_option maxHeartbeats 4000000
/-! DE21: a dict display of texts, read at once: {a: b, ..}[e]. -/
namespace DE
open PySem PySem.Spec L2
abbrev SS := List (List Nat × List Nat)
def kvV (l : SS) : List (Key × V) := l.map fun p => (Sum.inr (SX.S p.1), V.str (SX.S p.2))
def dispOk : SS → List (Option Expr) → List Expr → Bool
  | [], [], [] => true
  | p :: l, some (.Constant (.str x) _ _) :: ks, .Constant (.str y) _ _ :: vs => decide (x = SX.S p.1) && decide (y = SX.S p.2) && dispOk l ks vs
  | _, _, _ => false
def trsOf (l : SS) : List (TE × TE) := l.map fun p => (tC (.str (SX.S p.1)), tC (.str (SX.S p.2)))
theorem disp_pps {X : Cx} {pos : Pos} : ∀ {l : SS} {ks : List (Option Expr)} {vs : List Expr}, dispOk l ks vs = true → PPs X pos ks vs (trsOf l) ∧ ks.all (·.isSome) = true ∧ ks.length = vs.length ∧ ks.length = l.length := by
  intro l ks vs h
  fun_induction dispOk l ks vs with
  | case1 => exact ⟨pps_nil, rfl, rfl, rfl⟩
  | case2 p l x a1 a2 ks y a3 a4 vs ih =>
    simp only [Bool.and_eq_true, decide_eq_true_eq] at h
    obtain ⟨⟨rfl, rfl⟩, h3⟩ := h
    obtain ⟨q1, q2, q3, q4⟩ := ih h3
    exact ⟨pps_cons pe_str pe_str q1, by simpa using q2, by simp [q3], by simp [q4]⟩
  | case3 => cases h
theorem tPairs_c {σ : L2.St} : ∀ {l : SS} {H : Hp} {Q : List (V × V) → Hp → Prop}, Q ((kvV l).map fun kv => (kV kv.1, kv.2)) H → tPairs (trsOf l) σ H Q
  | [], _, _, h => h
  | p :: l, H, Q, h => tPairs_c (l := l) (H := H) (Q := fun ps H3 => Q ((V.str (SX.S p.1), V.str (SX.S p.2)) :: ps) H3) h
def dlk : SS → List Nat → Option (List Nat)
  | [], _ => none
  | p :: l, s => if p.1 = s then some p.2 else dlk l s
theorem dlk_val (l : SS) (s : List Nat) : valV (kvV l) (Sum.inr (SX.S s)) = (dlk l s).map fun t => V.str (SX.S t) := by
  induction l with
  | nil => rfl
  | cons p l ih =>
    unfold dlk
    by_cases h : p.1 = s
    · rw [if_pos h]
      exact valV_pos (p := (Sum.inr (SX.S p.1), V.str (SX.S p.2))) (by rw [h])
    · rw [if_neg h, ← ih]
      exact valV_neg (p := (Sum.inr (SX.S p.1), V.str (SX.S p.2))) fun q => h (SX.S_inj (Sum.inr.inj q))
theorem put_new {kvs : List (Key × V)} {k : Key} {v : V} (h : ∀ kv ∈ kvs, kv.1 ≠ k) : putK kvs k v = kvs ++ [(k, v)] := by
  unfold putK
  rw [if_neg]
  intro q
  rw [List.any_eq_true] at q
  obtain ⟨kv, hm, e⟩ := q
  exact h kv hm (of_decide_eq_true e)
theorem merge_new : ∀ {more kvs : List (Key × V)}, (∀ kv ∈ kvs, ∀ kv' ∈ more, kv.1 ≠ kv'.1) → more.Pairwise (fun a b => a.1 ≠ b.1) → mergeK kvs more = kvs ++ more
  | [], kvs, _, _ => by simp [mergeK]
  | p :: r, kvs, h, hp => by
    rw [List.pairwise_cons] at hp
    show mergeK (putK kvs p.1 p.2) r = _
    rw [put_new fun kv hm => h kv hm p (List.mem_cons_self ..)]
    rw [merge_new (fun kv hm kv' hm' => ?_) hp.2]
    · simp
    · rcases List.mem_append.mp hm with q | q
      · exact h kv q kv' (List.mem_cons_of_mem _ hm')
      · rw [List.mem_singleton] at q; subst q
        exact hp.1 kv' hm'
def fDsub (l : SS) (fa : Ev) : Ev := fun z => (fa z).bind fun x => (match x.1 with
  | .str s => (dlk l s).map fun t => (.str t, x.2)
  | _ => none)
def semDsub (l : SS) : List Ev → Ev
  | [fa] => fDsub l fa
  | _ => fun _ => none
def apartB : SS → Bool
  | [] => true
  | p :: l => l.all (fun q => decide (p.1 ≠ q.1)) && apartB l
def dspLens (l : SS) : Bool := l.all fun p => okN p.2.length
def shDsub (l : SS) : Scope → Expr → Option (List Expr) := fun _ e => match e with
  | .Subscript (.Dict ks vs _) i _ => if dispOk l ks vs = true ∧ apartB l = true ∧ dspLens l = true ∧ l ≠ [] ∧ l.length ≤ 15 ∧ notSlice i = true then some [i] else none
  | _ => none
theorem apart_pw : ∀ {l : SS}, apartB l = true → (kvV l).Pairwise (fun a b => a.1 ≠ b.1)
  | [], _ => List.Pairwise.nil
  | p :: l, h => by
    unfold apartB at h
    rw [Bool.and_eq_true, List.all_eq_true] at h
    show List.Pairwise _ ((Sum.inr (SX.S p.1), V.str (SX.S p.2)) :: kvV l)
    rw [List.pairwise_cons]
    refine ⟨fun q hq => ?_, apart_pw h.2⟩
    unfold kvV at hq
    obtain ⟨r, hr, rfl⟩ := List.mem_map.mp hq
    have := of_decide_eq_true (h.1 r hr)
    exact fun e => this (SX.S_inj (Sum.inr.inj e))
theorem dlk_len : ∀ {l : SS} {s t : List Nat}, dspLens l = true → dlk l s = some t → t.length ≤ sizeLine
  | [], _, _, _, e => by cases e
  | p :: l, s, t, h, e => by
    unfold dspLens at h
    rw [List.all_cons, Bool.and_eq_true] at h
    unfold dlk at e
    by_cases q : p.1 = s
    · rw [if_pos q] at e; cases e; exact okN_le h.1
    · rw [if_neg q] at e; exact dlk_len h.2 e
def tAny (W : Wd) (fa : Ev) : TE := fun σ H Q => ∃ B, tev W B fa σ H Q
theorem pe_any {X : Cx} {W : Wd} {e : Expr} {fa : Ev} (h : ∀ B, PE X e (tev W B fa)) : PE X e (tAny W fa) := ⟨fun pins s σ H Q I q => (h q.choose).run pins s σ H Q I q.choose_spec⟩
theorem upd2 {H : Hp} {p : Addr} {a b : HO} : upd (upd H p a) p b = upd H p b := funext fun c => by
  by_cases h : c = p
  · subst h; rw [upd_same, upd_same]
  · rw [upd_ne h, upd_ne h, upd_ne h]
theorem dsubN {G : GX} {lv : Nat} {l : SS} : ExtN G lv (shDsub l) (semDsub l) := by
  intro N sc X fx e vs hs fs hp B
  unfold shDsub at hs
  split at hs
  · rename_i ks vs' dp i pos
    split at hs
    · rename_i h
      cases hs
      obtain ⟨h1, h2, h3, h4, h5, h6⟩ := h
      obtain ⟨q1, q2, q3, q4⟩ := disp_pps (X := X) (pos := dp) h1
      have hne : ks ≠ [] := fun q => h4 (List.length_eq_zero_iff.mp (by rw [← q4, q]; rfl))
      have pd := pe_disp q1 q2 q3 hne (by rw [q4]; exact h5)
      have un := fx.adm.un
      cases fs with
      | nil => cases hp B
      | cons fa ft =>
        cases ft with
        | cons _ _ => cases hp B with | cons _ t => cases t
        | nil =>
          have hi : ∀ B, PE X i (tev G.W B fa) := fun B => by cases hp B with | cons h _ => exact h
          show PE X _ (tev G.W B (fDsub l fa))
          refine pe_mono (pe_dget (by omega) pd (pe_any hi) (fun o v => ix_ok h6 o v)) fun σ H Q q => ?_
          obtain ⟨ι, z, d, z', zr, e1, kk⟩ := q
          unfold fDsub at e1
          cases ea : fa z with
          | none => rw [ea] at e1; cases e1
          | some x =>
            rw [ea, Option.bind_some] at e1
            obtain ⟨x1, x2⟩ := x
            cases x1 with
            | str sx =>
              replace e1 : ((dlk l sx).map fun t => (D.str t, x2)) = some (d, z') := e1
              cases e2 : dlk l sx with
              | none => rw [e2] at e1; cases e1
              | some t =>
                rw [e2] at e1
                cases e1
                have hm : mergeK [] (kvV l) = kvV l := by rw [merge_new (fun kv h => by cases h) (apart_pw h2)]; rfl
                intro p hp0
                refine tPairs_c ⟨upd_same, kvV l, rfl, by unfold kvV; rw [List.length_map]; exact h5, ?_⟩
                rw [upd2, hm]
                have fr := Fr.of zr hp0
                refine ⟨⟨B.ι, B.H, upd B.P p (.dK (kvV l))⟩, ι, z, _, _, (zr.alloc hp0).guard fr upd_same, ea, fun v ι1 H1 k1 r1 zr1 => ?_⟩
                obtain ⟨zr2, _, hp1⟩ := ZR.unguard fr.b zr1
                have ev : v = .str (SX.S sx) := by
                  have := r1.rep rfl
                  unfold Rep at this
                  exact this.1
                subst ev
                refine ⟨p, V.str (SX.S t), rfl, ?_, kk _ ι1 H1 ((Kp.alloc hp0).trans k1) ⟨rfl, by unfold Rep; exact ⟨rfl, dlk_len h3 e2⟩⟩ zr2⟩
                have hd := DGet.k (k := Sum.inr (SX.S sx)) hp1
                rw [dlk_val, e2] at hd
                exact hd
            | _ => cases e1
    · cases hs
  · cases hs
end DE
set_option Elab.async false
set_option linter.all false
set_option maxRecDepth 100000
set_option maxHeartbeats 4000000
/-! DE22: binding by keywords; the end of a law whose promise asks that no repr be under way. -/
namespace DE
open PySem PySem.Spec PyProof.Rows L2
theorem bindsAny {K : PySem.W.Frag} {x qual : Str} {params : Arguments} {body : List Stmt} {scope : Scope} {kws : List (Str × V)} {f : Addr} {fd : FuncData} (F : FunD K x qual params body scope [] kws f fd) {args : Args} {binds : List (Str × Value)}
    (h : ∀ (kV doc pm : Value) (an : Option Addr) (cdv ct : Value), bindArgs (PySem.W.fnOf x qual params body scope .none kV doc pm an cdv ct) args = pure binds) (s : Shared) : BindsTo s fd args binds := by
  obtain ⟨oc, od, dV, kV, doc, pm, an, cdv, ct, osl, rfl, lk, hcd, hD, hK⟩ := F.ex
  rcases hD with ⟨_, rfl⟩ | ⟨e, _⟩
  · exact .of_eq (h kV doc pm an cdv ct)
  · exact absurd rfl e
/-- the law is called -/
theorem law_callG {P : Program} {w : World} {K : PySem.W.Frag} {mg mb : Str → Option Value} {k : Nat} {fa a : Addr} {fd : FuncData} {x : Str} {sp : Sp} {s₁ : Shared} {vs : List Value} {ns : List Int}
    (KX : K.In s₁.heap) (hns : s₁.heap.Ns mainGlobals mg) (hb : s₁.heap.Ns builtinsNs mb) (hbb : ∀ x : Str, x ≠ "__name__" → mb x = bootBuiltins x) (hlim : s₁.heap.NoLimit) (hg : s₁.gens = #[])
    (ha : s₁.heap.get? a = some { cls := .type "list", data := .seq vs.toArray }) (hi : IntsAre vs ns) (hl : ns.length ≤ sizeLine) (hr : Room k callerA)
    (F : ∀ base : Heap, K.In base → base.Ns mainGlobals mg → FnG P w K mg base k fa fd [x] sp) (hbind : ∀ (s : Shared) (u : Value), BindsTo s fd ⟨[u], []⟩ [(x, u)])
    (hsp : ∀ H : Hp, Only H → Fz K H a (ns.map V.int) → sp [.ref a] H (fun v _ => v = .bl true) fun _ _ _ => False) :
    codeAny (model P w) callerA (.call (.ref fa) ⟨[.ref a], []⟩) (fun r s' => r = .ok (.ret (.bool true)) ∧ OldK s₁.heap s'.heap ∧ s'.os = s₁.os ∧ AllBare s'.gens) s₁ := by
  have rv := vals_ints hi
  have lenV := hi.length
  have core : ∀ H : Hp, Only H → Fz K H a (ns.map V.int) → HOk P w H s₁.heap → (∀ b, H b ≠ none → b = a) → (H a ≠ none → K.lookup a = none) →
      codeAny (model P w) callerA (.call (.ref fa) ⟨[.ref a], []⟩) (fun r s' => r = .ok (.ret (.bool true)) ∧ OldK s₁.heap s'.heap ∧ s'.os = s₁.os ∧ AllBare s'.gens) s₁ := by
    intro H hO hS hok hA hK
    have at_a : ∀ {b : Addr} {u : HO}, H b = some u → b = a := fun {b u} q => hA b (by rw [q]; simp)
    have base_of : ∀ {b : Addr} {o : Obj}, s₁.heap.get? b = some o → H b = none → (hidT s₁.heap H).get? b = some o := fun e n => hidT_get e n
    have noA : ∀ {b : Addr} {o : Obj} {es : Array DictEntry} {ep : Nat}, s₁.heap.get? b = some o → o.data = .dict es ep → H b = none := fun {b o es ep} e d => by
      cases q : H b with
      | none => rfl
      | some u =>
        rw [at_a q, ha] at e; cases e
        exact nomatch (show Data.seq vs.toArray _ = Data.dict es ep from d)
    have nsK : ∀ {b : Addr} {m : Str → Option Value}, s₁.heap.Ns b m → (hidT s₁.heap H).Ns b m := fun {b m} ⟨o, es, ep, e, d, r⟩ => ⟨o, es, ep, base_of e (noA e d), d, r⟩
    have hKb : K.In (hidT s₁.heap H) := fun b o e => base_of (KX b o e) (by
      cases q : H b with
      | none => rfl
      | some u => rw [at_a q, hK (by rw [← at_a q, q]; simp)] at e; cases e)
    have hM : Mod K mg (hidT s₁.heap H) := ⟨hKb, nsK hns, ⟨mb, nsK hb, hbb⟩, let ⟨mc, h1, h2⟩ := hlim; ⟨mc, nsK h1, h2⟩⟩
    have e0 : Env0 P w K mg (hidT s₁.heap H) callerA [] s₁ H := ⟨rfl, hM, fun b o e => of_hidT e, Nat.le_of_eq (hidT_size _ _), trivial, fun b hb => absurd (show b ∈ ([] : List Addr) from hb) (by simp), hok, .of_eq hg⟩
    refine codeAny_mono ((F _ hKb (nsK hns)).run callerA [] s₁ H ⟨[.ref a], []⟩ [.ref a] [.ref a] _ _ hr rfl e0 (hbind s₁ (.ref a)) (.cons rfl .nil) (hsp H hO hS)) fun r s' h => ?_
    cases r with
    | error e => exact h.elim
    | ok fl =>
      cases fl with
      | ret u =>
        obtain ⟨v, H', os, bare, un, hok', r', q⟩ := h
        obtain rfl : v = .bl true := q
        obtain rfl : u = Value.bool true := r'
        refine ⟨rfl, OldK.of_keep fun b o e => ?_, os, bare⟩
        rcases hO b with q | ⟨ob, xs, z⟩
        · exact un.keep b o e q (fun z => absurd (show b ∈ ([] : List Addr) from z) (by simp)) (by simp)
        · obtain ⟨e1, _⟩ := hok b _ z
          obtain ⟨e2, _⟩ := hok' b _ (un.frzs b ob _ z)
          rw [e] at e1; cases e1
          exact e2
      | _ => exact h.elim
  cases hk : K.lookup a with
  | some o =>
    have e := KX a o hk
    rw [ha] at e
    cases e
    exact core (fun _ => none) (fun _ => .inl rfl) (.inr ⟨vs.toArray, 0, hk, by rw [List.size_toArray, lenV]; exact hl, by simpa using rv⟩) (fun b u z => nomatch (show (none : Option HO) = some u from z)) (fun b z => absurd rfl z) fun z => absurd rfl z
  | none =>
    refine core (fun b => if b = a then some (.frz { cls := .type "list", data := .seq vs.toArray } (.lst (ns.map V.int))) else none) (fun b => ?_) (.inl ⟨{ cls := .type "list", data := .seq vs.toArray }, if_pos rfl⟩) (fun b u z => ?_) (fun b z => ?_) fun _ => hk
    · by_cases hb : b = a
      · exact .inr ⟨_, _, if_pos hb⟩
      · exact .inl (if_neg hb)
    · by_cases hb : b = a
      · cases (if_pos hb).symm.trans z
        subst hb
        exact ⟨ha, by rw [List.length_map]; exact hl, vs, _, rv, ha⟩
      · cases (if_neg hb).symm.trans z
    · by_cases hb : b = a
      · exact hb
      · exact absurd (if_neg hb) z
/-- a law by its promise on data: g is what its def computes -/
theorem walk_G {l : PySem.W.OpenLaw} {n k : Nat} {q : Program} {loose : List Str} {XP : (Str → Option Value) → Heap → Prop} {YP : World → Heap → Prop} {d : DefRec} {x : Str} {g : Fn}
    (hn : l.most = some n) (hn2 : n ≤ sizeLine) (hdf : d.params.defaults = []) (hr : Room k callerA)
    (F : ∀ (w : World) (mg : Str → Option Value) (fa : Addr) (h : Heap), YP w h → h.Ns mainGlobals mg → mg d.name = some (.ref fa) →
      ∃ (K : PySem.W.Frag) (W : Wd) (fd : FuncData), W.K = K ∧ K.In h ∧ (∀ (s : Shared) (u : Value), BindsTo s fd ⟨[u], []⟩ [(x, u)]) ∧ ∀ base : Heap, K.In base → base.Ns mainGlobals mg → FnG l.prog w K mg base k fa fd [x] (spD W 1 g))
    (hg : ∀ ns : List Int, ns.length ≤ n → (∀ z ∈ ns, Builtin.Int.intBits z ≤ 1048576) → ∃ S, g [.lst (ns.map .int)] [] = some (.bl true, S)) :
    PySem.W.WalkO q loose XP YP l.row.toRowW d [] (fun f vs => PySem.call f vs) := by
  refine Att.attach_callB hn hdf fun w s₀ s₁ mg mb fa o pm cd doc a vs ns G Y ho hd hcd hmg hobj hints hlen hbits hgens => ?_
  obtain ⟨K, W, fd, rfl, KX, hb, hF⟩ := F w mg fa _ Y G.T.g hmg
  have hl := Nat.le_trans hlen hn2
  refine law_callG KX G.T.g G.T.b G.T.builtins G.T.nolimit hgens hobj hints hl hr hF hb fun H hO hS => ?_
  obtain ⟨S, e⟩ := hg ns hlen hbits
  refine ⟨[], [], [.lst (ns.map .int)], .bl true, S, rfl, .cons ?_ .nil, ⟨rfl, List.nodup_nil, fun m mo b e _ => by simp at e⟩, e, fun v ι' H' _ _ _ rv => ?_⟩
  · unfold Rep
    exact ⟨by rw [List.length_map]; exact hl, a, _, rfl, hS, repL_ints⟩
  · unfold Rep at rv
    exact rv
end DE
set_option Elab.async false
set_option linter.all false
set_option maxRecDepth 100000
set_option maxHeartbeats 4000000
/-! DE23: repr of data. -/
namespace DE
open PySem PySem.Spec L2
mutual
/-- a bound of what repr writes; great ints and strange signs cost too much -/
def cost : D → Nat
  | .int i => if i.natAbs < 1000000000000 then 41 else 2000000
  | .str s => if s.all (fun c => Nat.blt c 1114112) then s.length else 2000000
  | .lst ds => costL ds
  | .tup ds => costL ds
  | _ => 0
def costL : List D → Nat
  | [] => 0
  | d :: ds => cost d + 1 + costL ds
end
mutual
theorem cost_ok : ∀ d : D, isD d = true → cost d ≤ 1048576 → PyData.canLay0 (toPy d) = true ∧ PyData.weight (toPy d) ≤ cost d ∧ PyData.intsShort 13 (toPy d) = true ∧ PyData.showable (toPy d) = true
  | .non, _, _ => ⟨rfl, Nat.le_refl _, rfl, rfl⟩
  | .bl _, _, _ => ⟨rfl, Nat.le_refl _, rfl, rfl⟩
  | .int i, _, h => by
    by_cases hi : i.natAbs < 1000000000000
    · have hl : i.natAbs.log2 < 40 := by
        by_cases h0 : i.natAbs = 0
        · rw [h0]; decide
        · exact (Nat.log2_lt h0).mpr (by omega)
      refine ⟨rfl, ?_, ?_, ?_⟩
      · simp only [toPy, PyData.weight, cost, if_pos hi]
        split <;> omega
      · have h1 := int_text_length_le10 (a := i) (k := 12) (by decide) (by omega)
        have h2 : (Str.ofString (toString i)).length ≤ 13 := by rw [ofString_length]; omega
        simp only [toPy, PyData.intsShort, PyData.shown]
        exact decide_eq_true h2
      · simp only [toPy, PyData.showable, decide_eq_true_eq]; omega
    · simp only [cost, if_neg hi] at h; omega
  | .str s, _, h => by
    by_cases hs : s.all (fun c => Nat.blt c 1114112) = true
    · simp only [cost, if_pos hs] at h ⊢
      refine ⟨?_, ?_, rfl, rfl⟩
      · have : (SX.S s).cps.all (fun c => decide (c < 1114112)) = true := by
          rw [Array.all_eq_true_iff_forall_mem]
          intro c hc
          have hc : c ∈ s := by simpa using hc
          have := List.all_eq_true.mp hs c hc
          exact decide_eq_true (Nat.le_of_ble_eq_true this)
        simp only [toPy, PyData.canLay0, PyData.strOk]
        exact this
      · simp [toPy, PyData.weight]
    · simp only [cost, if_neg hs] at h; omega
  | .lst ds, hd, h => by
    obtain ⟨a, b, c, d⟩ := costL_ok ds (by simpa [isD] using hd) (by simpa [cost] using h)
    simp only [toPy, cost, PyData.canLay0, PyData.weight, PyData.intsShort, PyData.showable]
    exact ⟨a, b, c, d⟩
  | .tup ds, hd, h => by
    obtain ⟨a, b, c, d⟩ := costL_ok ds (by simpa [isD] using hd) (by simpa [cost] using h)
    simp only [toPy, cost, PyData.canLay0, PyData.weight, PyData.intsShort, PyData.showable]
    exact ⟨a, b, c, d⟩
  | .ins _ _, hd, _ => by simp [isD] at hd
  | .han _, hd, _ => by simp [isD] at hd
  | .bor _, hd, _ => by simp [isD] at hd
  | .brw _, hd, _ => by simp [isD] at hd
  | .fn _, hd, _ => by simp [isD] at hd
theorem costL_ok : ∀ ds : List D, isDL ds = true → costL ds ≤ 1048576 → PyData.canLayAll0 (toPyL ds) = true ∧ PyData.weightAll (toPyL ds) ≤ costL ds ∧ PyData.intsShortAll 13 (toPyL ds) = true ∧ PyData.showableAll (toPyL ds) = true
  | [], _, _ => ⟨rfl, Nat.le_refl _, rfl, rfl⟩
  | d :: ds, hd, h => by
    simp only [isDL, Bool.and_eq_true] at hd
    simp only [costL] at h ⊢
    obtain ⟨a, b, c, e⟩ := cost_ok d hd.1 (by omega)
    obtain ⟨a', b', c', e'⟩ := costL_ok ds hd.2 (by omega)
    simp only [toPyL, PyData.canLayAll0, PyData.weightAll, PyData.intsShortAll, PyData.showableAll, a, a', c, c', e, e', Bool.and_self, true_and, and_true]
    omega
end
def shownL (d : D) : List Nat := (toPy d).shown.cps.toList
def reprD (d : D) : Option D := if shp d && Nat.ble (cost d) 1048576 then some (.str (shownL d)) else none
def rRepr (K : PySem.W.Frag) : List V → Hp → VK → Prop := fun vs H Q => ∃ x d, vs = [x] ∧ Dp K H x d ∧ d.showable = true ∧ d.hasDict = false ∧ d.depth ≤ 32 ∧ d.shown.length ≤ sizeLine ∧ Q (.str d.shown) H
theorem cr_repr {X : Cx} (hg : X.A.guards = some []) (hu : X.A.units + 65 < cLine) : CallR X (.builtin "repr") (rRepr X.K) := by
  intro pins s σ H vs us Q I r h
  obtain ⟨x, d, rfl, hd, hs, hn, hdep, hz, q⟩ := h
  obtain ⟨u, rfl, rx⟩ := vals1 r
  obtain ⟨as, hr⟩ := Dp.reads I d x u hd rx
  cases hr with
  | none => exact PySem.P.repr_of_none ⟨.str _, H, I.tok _, ⟨_, rfl⟩, by simpa only [PyData.shown] using q⟩
  | bool b => exact PySem.P.repr_of_bool ⟨.str _, H, I.tok _, ⟨_, rfl⟩, by simpa only [PyData.shown] using q⟩
  | int i t => exact PySem.P.repr_of_int (by simpa [PyData.showable] using hs) ⟨.str _, H, I.tok _, ⟨_, rfl⟩, by simpa only [PyData.shown] using q⟩
  | str y t => exact PySem.P.repr_of_str ⟨.str _, H, I.tok _, ⟨_, rfl⟩, by simpa only [PyData.shown] using q⟩ (by simpa only [PyData.shown] using hz)
  | list a b c d => exact repr_of_reads' (.list a b c d) hs (PyData.noDict_hsm hn) hg (by omega) (fun _ _ e => e) (fun h' u tk hk => ⟨.str _, H, I.turnedL (ch := []) (fun b o _ e => hk b o e) (fun b hb => by cases hb), ⟨_, rfl⟩, q⟩) hz
  | tuple a b c d => exact repr_of_reads' (.tuple a b c d) hs (PyData.noDict_hsm hn) hg (by omega) (fun _ _ e => e) (fun h' u tk hk => ⟨.str _, H, I.turnedL (ch := []) (fun b o _ e => hk b o e) (fun b hb => by cases hb), ⟨_, rfl⟩, q⟩) hz
  | dict a b c d e => simp [PyData.hasDict] at hn
theorem boot_rp : bootBuiltins "repr" = some (.builtin "repr") := PyProof.Rows.boot_repr
theorem reprN {W : Wd} : BcN W "repr" (f1 reprD) := ⟨by decide, _, boot_rp, fun X ad => ⟨_, cr_repr ad.gd ad.un, bcOk1 (fun ι H x v d Q e r k => by
  replace e : reprD x = some d := e
  unfold reprD at e
  split at e
  · rename_i h
    cases e
    rw [Bool.and_eq_true] at h
    have hD : isD x = true := (dpt_ok _ _ h.1).1
    have hdep : (toPy x).depth ≤ 32 := (shp_of r h.1).2
    obtain ⟨c1, c2, c3, c4⟩ := cost_ok x hD (Nat.le_of_ble_eq_true h.2)
    have hc := Nat.le_of_ble_eq_true h.2
    have hlay : PyData.layable0 (toPy x) = true := by
      unfold PyData.layable0
      simp only [c1, Bool.true_and, Bool.and_eq_true, decide_eq_true_eq]
      exact ⟨by omega, by omega⟩
    have hlen := PyProof.Rows.shown_le13 hlay c3
    refine ⟨v, toPy x, rfl, ad.k ▸ (shp_of r h.1).1, c4, PyData.hasDict_of_layable hlay, hdep, by rw [sizeLine_eq]; omega, ?_⟩
    have es : (toPy x).shown = SX.S (shownL x) := (SX.S_tl _).symm
    rw [es]
    exact k _ H (fun _ _ e => e) rfl (rep_str (by rw [← SX.S_len, ← es, sizeLine_eq]; omega))
  · cases e) f1_ne⟩⟩
end DE
set_option Elab.async false
set_option linter.all false
set_option maxRecDepth 100000
set_option maxHeartbeats 4000000
/-! DE24: sorted(set(t)), t a tuple of ints. -/
namespace DE
open PySem PySem.Spec L2
def insI (a : Int) : List Int → List Int
  | [] => [a]
  | b :: l => if a < b then a :: b :: l else if a = b then b :: l else b :: insI a l
def sset : List Int → List Int
  | [] => []
  | a :: l => insI a (sset l)
theorem insI_mem {a k : Int} : ∀ {l : List Int}, k ∈ insI a l ↔ k = a ∨ k ∈ l
  | [] => by simp [insI]
  | b :: l => by
    unfold insI
    split
    · simp
    · split
      · rename_i h; subst h; simp
      · rw [List.mem_cons, insI_mem, List.mem_cons]
        constructor
        · rintro (h | h | h)
          · exact .inr (.inl h)
          · exact .inl h
          · exact .inr (.inr h)
        · rintro (h | h | h)
          · exact .inr (.inl h)
          · exact .inl h
          · exact .inr (.inr h)
theorem sset_mem {k : Int} : ∀ {l : List Int}, k ∈ sset l ↔ k ∈ l
  | [] => by simp [sset]
  | a :: l => by rw [sset, insI_mem, sset_mem, List.mem_cons]
theorem insI_asc {a : Int} : ∀ {l : List Int}, l.Pairwise (· < ·) → (insI a l).Pairwise (· < ·)
  | [], _ => by simp [insI]
  | b :: l, h => by
    rw [List.pairwise_cons] at h
    unfold insI
    split
    · rename_i hab
      refine List.pairwise_cons.mpr ⟨fun c hc => ?_, List.pairwise_cons.mpr h⟩
      rcases List.mem_cons.mp hc with rfl | hc
      · exact hab
      · exact Int.lt_trans hab (h.1 c hc)
    · split
      · exact List.pairwise_cons.mpr h
      · refine List.pairwise_cons.mpr ⟨fun c hc => ?_, insI_asc h.2⟩
        rcases insI_mem.mp hc with rfl | hc
        · omega
        · exact h.1 c hc
theorem sset_asc : ∀ {l : List Int}, (sset l).Pairwise (· < ·)
  | [] => by simp [sset]
  | a :: l => insI_asc sset_asc
theorem asc_uniq {l m : List Int} (h1 : l.Pairwise (· < ·)) (h2 : m.Pairwise (· < ·)) (h : ∀ k, k ∈ l ↔ k ∈ m) : l = m := by
  have n1 : l.Nodup := by rw [List.nodup_iff_pairwise_ne]; exact h1.imp fun h e => by omega
  have n2 : m.Nodup := by rw [List.nodup_iff_pairwise_ne]; exact h2.imp fun h e => by omega
  refine List.Perm.eq_of_pairwise (le := (· < ·)) (fun a b _ _ h1 h2 => by omega) h1 h2 ?_
  rw [List.perm_iff_count]
  intro a
  rw [n1.count, n2.count]
  simp only [h]
def rSetT (K : PySem.W.Frag) (w : World) : List V → Hp → VK → Prop := fun vs H Q => ∃ (l : Addr) (ns : List Int), vs = [V.ref l] ∧ SqT K H l (ns.map V.int) ∧ ns.length < 60 ∧ ∀ (p : Addr) (c : Nat), H p = none → c ≤ ns.length → Q (.ref p) (upd H p (SetO w p (fun j => decide (j ∈ ns)) c))
theorem cr_setT {X : Cx} (hc : X.calm = true) : CallR X (.type "set") (rSetT X.K X.w) := by
  intro pins s σ H vs us Q I r h
  obtain ⟨l, ns, rfl, hs, hl, q⟩ := h
  obtain ⟨its, rv, ht, _⟩ := I.tuple hs
  rw [Vals.ref1 r]
  refine call_set_tupI ns (I.ok.hd hc) ht (by simpa using rv.ints) (by have h0 : (61 : Nat) < scanBound := (by decide); omega) fun h' tk c R hcn k => ?_
  exact ⟨.ref _, upd H s.heap.objs.size (SetO X.w s.heap.objs.size (fun j => decide (j ∈ ns)) c), I.laid (t' := tk) k (Nat.le_refl _) (setO_new R), rfl, q _ c (I.hok.fresh (Nat.le_refl _)) hcn⟩
def ssB (z : Z) : D → Option (List D × Z)
  | .tup ds => (intsD ds).bind fun ns => if Nat.blt ns.length 60 then some ((sset ns).map D.int, z) else none
  | _ => none
def semSset : List Ev → EvA
  | [fa] => fun z => (fa z).bind fun x => ssB x.2 x.1
  | _ => fun _ => none
def shSset : Scope → Expr → Option (List Expr) := fun sc e => match e with
  | .Call (.Name y _) [.Call (.Name y2 _) [v] [] _] [] _ => if y = "sorted" ∧ y2 = "set" ∧ glb sc y = true ∧ glb sc y2 = true ∧ notStar v = true then some [v] else none
  | _ => none
theorem intsD_of : ∀ {ds : List D} {ns : List Int}, intsD ds = some ns → ds = ns.map D.int
  | [], ns, h => by cases h; rfl
  | d :: ds, ns, h => by
    cases d with
    | int i =>
      cases e : intsD ds with
      | none => simp [intsD, e] at h
      | some m =>
        simp only [intsD, e, Option.map_some, Option.some.injEq] at h
        subst h
        rw [intsD_of e]
        rfl
    | _ => cases h
theorem repL_int_vs {W : Wd} {ι : List Addr} {H : Hp} : ∀ {ns : List Int} {xs : List V}, RepL W ι H (ns.map D.int) xs → xs = ns.map V.int
  | [], _, h => by unfold RepL at h; exact h
  | n :: ns, _, h => by
    rw [List.map_cons] at h
    unfold RepL at h
    obtain ⟨v, r, rfl, _, hv, hr⟩ := h
    unfold Rep at hv
    rw [hv, repL_int_vs hr]
    rfl
theorem ssetN {G : GX} {lv : Nat} (h1 : G.mg "sorted" = none) (h2 : G.mg "set" = none) : ExtF G lv shSset semSset := by
  intro N sc X fx e vs hs fs hp B
  unfold shSset at hs
  split at hs
  · rename_i y p y2 p2 v pos2 pos
    split at hs
    · rename_i h
      cases hs
      obtain ⟨rfl, rfl, g1, g2, ns⟩ := h
      cases hp B with
      | cons hv ht =>
        cases ht
        rename_i fa
        have inner := pe_callTy (pos := pos2) (p := p2) (cr_setT fx.calm) (show X.env.scope.names.lookup _ = _ by rw [fx.sc]; exact glb_ok g2) (by rw [fx.mg]; exact h2) (show bootBuiltins "set" = some (.type "set") by decide +kernel) (pa_cons hv pa_nil (star_ok ns)) (by decide) (by decide) (star_ok ns) rfl
        have outer := pe_callB (pos := pos) (p := p) (cr_sortedSet fx.calm) (show X.env.scope.names.lookup _ = _ by rw [fx.sc]; exact glb_ok g1) (by rw [fx.mg]; exact h1) boot_sorted (pa_cons inner pa_nil (star_ok rfl)) (by decide) (by decide) (star_ok rfl) rfl
        refine pe_mono outer fun σ H Q q => ?_
        obtain ⟨ι, z, d, z', zr, e1, kk⟩ := q
        replace e1 : ((fa z).bind fun x => ssB x.2 x.1) = some (d, z') := e1
        cases ea : fa z with
        | none => rw [ea] at e1; cases e1
        | some x =>
          rw [ea, Option.bind_some] at e1
          obtain ⟨x1, x2⟩ := x
          cases x1 with
          | tup ds =>
            cases ei : intsD ds with
            | none => simp [ssB, ei] at e1
            | some ns' =>
              by_cases hb : Nat.blt ns'.length 60 = true
              · simp only [ssB, ei, Option.bind_some, hb, if_true, Option.some.injEq, Prod.mk.injEq] at e1
                obtain ⟨rfl, rfl⟩ := e1
                have hb' : ns'.length < 60 := Nat.le_of_ble_eq_true hb
                have ed := intsD_of ei
                subst ed
                refine ⟨ι, z, .tup (ns'.map D.int), x2, zr, ea, fun v1 ι1 H1 k1 r1 zr1 => ?_⟩
                have rr := r1.rep rfl
                unfold Rep at rr
                obtain ⟨hle, a, xs, rfl, sq, rl⟩ := rr
                rw [repL_int_vs rl] at sq
                refine ⟨a, ns', rfl, fx.k.symm ▸ sq, hb', fun q c hq hcn => ⟨q, _, c, rfl, upd_same, by omega, fun ns2 p2 u1 u2 u3 hp2 => ?_⟩⟩
                have e2 : ns2 = sset ns' := asc_uniq u1 sset_asc fun k => by rw [u2, sset_mem, decide_eq_true_eq]
                subst e2
                refine kk p2 _ ι1 _ ((k1.trans (Kp.alloc hq)).trans (Kp.alloc hp2)) ((zr1.alloc hq).alloc hp2) (repL_ints (l := sset ns')) ?_ (k1.th p2 ?_) upd_same (Fr.of (zr1.alloc hq) hp2)
                · rw [List.length_map, u3, sizeLine_eq]; omega
                · by_cases hpq : p2 = q
                  · rw [hpq]; exact hq
                  · rwa [upd_ne hpq] at hp2
              · rw [show ssB x2 (.tup ds) = none by simp only [ssB, ei, Option.bind_some, hb, if_false]; rfl] at e1
                cases e1
          | _ => cases e1
    · cases hs
  · cases hs
end DE
set_option Elab.async false
set_option linter.all false
set_option maxRecDepth 100000
set_option maxHeartbeats 4000000
/-! DE25: -i; xs[::st] of a list, st 1 or -1. -/
namespace DE
open PySem PySem.Spec L2 PyProof.Rows
def negD : D → Option D
  | .int i => some (.int (-i))
  | _ => none
theorem negN {W : Wd} : UnN W .USub negD := fun X ad => by
  refine ⟨_, un_neg, fun ι H x v d Q e r k => ?_⟩
  unfold negD at e
  split at e
  · cases e
    exact ⟨_, rrep_int r, k _ H (fun _ _ e => e) rfl rep_int⟩
  · cases e
theorem pick_one (items : Array Value) : slicePick items none none (some 1) = items.toList.toArray := by
  have h := slicePick_from items 0 (Nat.zero_le _)
  have e : slicePick items none none (some 1) = slicePick items (some ((0 : Nat) : Int)) none none := by
    unfold slicePick
    rfl
  rw [e, h, List.drop_zero]
def tStep (K : PySem.W.Frag) (te ts : TE) : TE := fun σ H Q => te σ H fun x H1 => tPart ts σ H1 fun o H2 => ∃ a xs, x = .ref a ∧ SqL K H2 a xs ∧ ((o = some 1 ∧ ∀ p, H2 p = none → Q (.ref p) (upd H2 p (.lst xs))) ∨ (o = some (-1) ∧ ∀ p, H2 p = none → Q (.ref p) (upd H2 p (.lst xs.reverse))))
theorem pe_step {X : Cx} {e st : Expr} {te ts : TE} {p3 pos : Pos} (he : PE X e te) (hs : PE X st ts) : PE X (.Subscript e (.Slice none none (some st) p3) pos) (tStep X.K te ts) := by
  refine ⟨fun pins s σ H Q I h => ?_⟩
  refine Subscript_ (thn (he.run pins s σ H _ I h) fun v s1 ⟨x, H1, I1, r1, q1⟩ => ?_)
  refine wpAny_Slice (thn (po_none.run pins s1 σ H1 (fun o H2 => o = none ∧ H2 = H1) I1 ⟨rfl, rfl⟩) fun vl s2 ⟨l, H2, I2, pl, el, e2⟩ => ?_)
  subst el e2
  refine thn (po_none.run pins s2 σ H2 (fun o H3 => o = none ∧ H3 = H2) I2 ⟨rfl, rfl⟩) fun vu s3 ⟨u, H3, I3, pu, eu, e3⟩ => ?_
  subst eu e3
  refine thn ((po_some hs).run pins s3 σ H3 _ I3 q1) fun vs s4 ⟨o, H4, I4, ps, q⟩ => ?_
  obtain ⟨a, xs, rfl, hx, q⟩ := q
  cases r1
  have I5 : Inv X pins σ H4 { s4 with heap := s4.heap.push { cls := .type "slice", data := .fields #[vl, vu, vs] } } := I4.kept (t' := s4.toks) fun b ob q => Heap.get?_push_of_some _ q
  obtain ⟨its, r, ht, hz⟩ := I5.list hx
  have hlen := r.length
  have h0 : o ≠ some 0 := by rcases q with ⟨rfl, _⟩ | ⟨rfl, _⟩ <;> decide
  show wpAny (model X.prog X.w) X.A (subscriptTail e (.Slice none none (some st) p3) (.ref a) (.ref s4.heap.objs.size)) (EP X pins σ Q) X.xe { s4 with heap := s4.heap.push { cls := .type "slice", data := .fields #[vl, vu, vs] } }
  refine tail_any (ops := [.ref a, .ref s4.heap.objs.size]) ht.isList.typeIs (PySem.slot_list_getitem.lookup) ?_ (by with_unfolding_all rfl)
  refine wpAny_getItem_list_slice ht.isList (Heap.IsSliceOf.new _ vl vu vs) pl pu ps h0 ?_ (by rw [List.size_toArray]; omega)
  rcases q with ⟨rfl, q⟩ | ⟨rfl, q⟩
  · rw [pick_one]
    exact ⟨.ref _, _, I5.laid (t' := s4.toks) (o := .lst xs) (fun b ob q => Heap.get?_push_of_some _ q) (Nat.le_refl _) ⟨hz, _, 0, r, Heap.get?_push_size _ rfl⟩, rfl, q _ (I5.hok.fresh (Nat.le_refl _))⟩
  · rw [PySem.W.krv_pick]
    exact ⟨.ref _, _, I5.laid (t' := s4.toks) (o := .lst xs.reverse) (fun b ob q => Heap.get?_push_of_some _ q) (Nat.le_refl _) ⟨by rw [List.length_reverse]; exact hz, _, 0, r.reverse, Heap.get?_push_size _ rfl⟩, rfl, q _ (I5.hok.fresh (Nat.le_refl _))⟩
def stpB (z : Z) : D → D → Option (List D × Z)
  | .lst ds, .int i => if i = 1 then some (ds, z) else if i = -1 then some (ds.reverse, z) else none
  | _, _ => none
def semStp : List Ev → EvA
  | [fa, fb] => fun z => (fa z).bind fun x => (fb x.2).bind fun y => stpB y.2 x.1 y.1
  | _ => fun _ => none
def shStp : Scope → Expr → Option (List Expr) := fun _ e => match e with
  | .Subscript v (.Slice none none (some st) _) _ => some [v, st]
  | _ => none
theorem RepL.rev {W : Wd} {ι : List Addr} {H : Hp} : ∀ {ds : List D} {xs : List V}, RepL W ι H ds xs → RepL W ι H ds.reverse xs.reverse
  | [], _, h => by unfold RepL at h; subst h; exact .nil
  | d :: ds, _, h => by
    unfold RepL at h
    obtain ⟨v, r, rfl, p, hv, hr⟩ := h
    rw [List.reverse_cons, List.reverse_cons]
    exact hr.rev.append (.cons p hv .nil)
theorem stpN {G : GX} {lv : Nat} : ExtF G lv shStp semStp := by
  intro N sc X fx e vs hs fs hp B
  unfold shStp at hs
  split at hs
  · rename_i v st p3 pos
    cases hs
    cases hp B with
    | cons hv ht =>
      cases ht with
      | cons hw hn =>
        cases hn
        rename_i fa fb
        refine pe_mono (pe_step hv hw) fun σ H Q q => ?_
        obtain ⟨ι, z, d, z', zr, e1, kk⟩ := q
        replace e1 : ((fa z).bind fun x => (fb x.2).bind fun y => stpB y.2 x.1 y.1) = some (d, z') := e1
        cases ea : fa z with
        | none => rw [ea] at e1; cases e1
        | some x =>
          rw [ea, Option.bind_some] at e1
          cases eb : fb x.2 with
          | none => rw [eb] at e1; cases e1
          | some y =>
            rw [eb, Option.bind_some] at e1
            obtain ⟨x1, x2⟩ := x
            obtain ⟨y1, y2⟩ := y
            cases x1 with
            | lst ds =>
              cases y1 with
              | int i =>
                refine ⟨ι, z, .lst ds, x2, zr, ea, fun v1 ι1 H1 k1 r1 zr1 => ⟨ι1, x2, .int i, y2, zr1, eb, fun v2 ι2 H2 k2 r2 zr2 => ⟨i, x_int r2, ?_⟩⟩⟩
                have rr := (r1.rep rfl).kp k2 rfl
                unfold Rep at rr
                obtain ⟨hle, a, xs, rfl, fz, rl⟩ := rr
                refine ⟨a, xs, rfl, fx.k.symm ▸ fz.sq, ?_⟩
                by_cases h1 : i = 1
                · subst h1
                  simp only [stpB, if_true, Option.some.injEq, Prod.mk.injEq] at e1
                  obtain ⟨rfl, rfl⟩ := e1
                  exact .inl ⟨rfl, fun p hp => kk p xs ι2 _ ((k1.trans k2).trans (Kp.alloc hp)) (zr2.alloc hp) (rl.kp (Kp.alloc hp)) hle ((k1.trans k2).th p hp) upd_same (Fr.of zr2 hp)⟩
                · by_cases h2 : i = -1
                  · subst h2
                    simp only [stpB, show ((-1 : Int) = 1) = False by simp, if_false, if_true, Option.some.injEq, Prod.mk.injEq] at e1
                    obtain ⟨rfl, rfl⟩ := e1
                    exact .inr ⟨rfl, fun p hp => kk p xs.reverse ι2 _ ((k1.trans k2).trans (Kp.alloc hp)) (zr2.alloc hp) (rl.rev.kp (Kp.alloc hp)) (by rw [List.length_reverse]; exact hle) ((k1.trans k2).th p hp) upd_same (Fr.of zr2 hp)⟩
                  · simp only [stpB, if_neg h1, if_neg h2] at e1
                    cases e1
              | _ => cases e1
            | _ => cases e1
  · cases hs
end DE
set_option Elab.async false
set_option linter.all false
set_option maxRecDepth 100000
set_option maxHeartbeats 4000000
/-! written by wip/gen.py: the trees of the defs -/
namespace KK
open PySem PySem.Spec L2 DE
def nms : List Str := ["given", "index", "number", "told", "written", "rules", "lines", "many", "kept", "known", "ends", "starts", "heads", "table", "now_kept", "past", "owner"]
/-! ### _law_purse -/
def law_purse_b0 : Ss := (.cons (.set 3 (.bin .Mod modD (.bt "int" (f1 intD) (.cons (.bin .Add addD (.bin .Add addD (.bin .Mult mulD (.var 3) (.cst (.int 41539))) (.bin .Mod modD (.bt "int" (f1 intD) (.cons (.var 4) .nil)) (.cst (.int 2147483647)))) (.cst (.int 101))) .nil)) (.cst (.int 2147483647)))) .nil)
def ir_law_purse : Ss := (.cons (.set 2 (.ife (.cmp .Lt ltD (.var 1) (.bc "len" (f1 lenD) (.cons (.var 0) .nil))) (.idx ixD (.var 0) (.var 1)) (.bin .Mult mulD (.cst (.int 6151)) (.bin .Add addD (.var 1) (.cst (.int 5)))))) (.cons (.set 3 (.bin .Add addD (.cst (.int 907)) (.var 1))) (.cons (.fors (.ex (.bin .Add addD (.slc slD (.var 0) .no (.yes (.cst (.int 5)))) (.fr (.dsp (.cons (.var 2) .nil))))) (.nm 4) law_purse_b0) (.cons (.ret (.cel (.dsp (.cons (.ife (.cmp .GtE geD (.bc "abs" (f1 absD) (.cons (.var 2) .nil)) (.bin .Pow powD (.cst (.int 10)) (.cst (.int 18)))) (.bc "abs" (f1 absD) (.cons (.var 2) .nil)) (.cst (.int 0))) (.cons (.var 3) .nil))))) .nil))))
def m_law_purse : Fn := fnD 5 ir_law_purse
/-! ### _law_draw -/
def ir_law_draw : Ss := (.cons (.ife (.cmp .Gt gtD (.idx ixD (.var 0) (.cst (.int 0))) (.cst (.int 0))) (.cons (.asg (.tp (.cons (.ix (.var 0) (.cst (.int 0))) (.cons (.nm 2) .nil))) (.bc "divmod" (f2 divmodD) (.cons (.idx ixD (.var 0) (.cst (.int 0))) (.cons (.var 1) .nil)))) (.cons (.ret (.var 2)) .nil)) .nil) (.cons (.asg (.ix (.var 0) (.cst (.int 1))) (.bin .Mod modD (.bt "int" (f1 intD) (.cons (.bin .Add addD (.bin .Mult mulD (.idx ixD (.var 0) (.cst (.int 1))) (.cst (.int 48683))) (.cst (.int 40503))) .nil)) (.cst (.int 2147483647)))) (.cons (.ret (.bin .Mod modD (.bt "int" (f1 intD) (.cons (.bin .FloorDiv fdivD (.idx ixD (.var 0) (.cst (.int 1))) (.cst (.int 1024))) .nil)) (.var 1))) .nil)))
def m_law_draw : Fn := fnD 3 ir_law_draw
/-! ### is_integer -/
def ir_is_integer : Ss := (.cons (.ret (.boo true (.cons (.ext (shIsi "int") (semIsi (isB "int")) (.cons (.var 0) .nil)) (.cons (.not (.ext (shIsi "bool") (semIsi (isB "bool")) (.cons (.var 0) .nil))) .nil)))) .nil)
def m_is_integer : Fn := fnD 1 ir_is_integer
/-! ### is_between -/
def ir_is_between : Ss := (.cons (.ret (.boo true (.cons (.call "is_integer" 1 m_is_integer (.cons (.var 0) .nil)) (.cons (.chn .LtE .LtE leD leD (.var 1) (.var 0) (.var 2)) .nil)))) .nil)
def m_is_between : Fn := fnD 3 ir_is_between
/-! ### is_name -/
def is_name_c0 : FE := .comp (.ex (.var 0)) (.nm 1) .no (.cmp .In inD (.var 1) (.glo "LETTERS" (.str [97, 98, 99, 100, 101, 102, 103, 104, 105, 106, 107, 108, 109, 110, 111, 112, 113, 114, 115, 116, 117, 118, 119, 120, 121, 122]))) [("sign", 1)]
def ir_is_name : Ss := (.cons (.ret (.boo true (.cons (.ext (shIsi "str") (semIsi (isB "str")) (.cons (.var 0) .nil)) (.cons (.chn .LtE .LtE leD leD (.cst (.int 1)) (.bc "len" (f1 lenD) (.cons (.var 0) .nil)) (.cst (.int 8))) (.cons (.bc "all" (f1 allD) (.cons (.fr is_name_c0) .nil)) .nil))))) .nil)
def m_is_name : Fn := fnD 2 ir_is_name
/-! ### are_ascending -/
def are_ascending_c0 : FE := .comp (.zip (.var 0) (.slc slD (.var 0) (.yes (.cst (.int 1))) .no)) (.tp [1, 2]) .no (.cmp .Lt ltD (.var 1) (.var 2)) [("one", 1), ("later", 2)]
def ir_are_ascending : Ss := (.cons (.ret (.bc "all" (f1 allD) (.cons (.fr are_ascending_c0) .nil))) .nil)
def m_are_ascending : Fn := fnD 3 ir_are_ascending
/-! ### is_row -/
def is_row_c0 : FE := .comp (.ex (.var 0)) (.nm 2) .no (.cmp .In inD (.var 2) (.cst (.str [43, 45, 46]))) [("sign", 2)]
def ir_is_row : Ss := (.cons (.ret (.boo true (.cons (.ext (shIsi "str") (semIsi (isB "str")) (.cons (.var 0) .nil)) (.cons (.cmp .Eq eqD (.bc "len" (f1 lenD) (.cons (.var 0) .nil)) (.var 1)) (.cons (.bc "all" (f1 allD) (.cons (.fr is_row_c0) .nil)) .nil))))) .nil)
def m_is_row : Fn := fnD 3 ir_is_row
/-! ### are_names -/
def are_names_c0 : FE := .comp (.ex (.var 0)) (.nm 1) .no (.call "is_name" 1 m_is_name (.cons (.var 1) .nil)) [("name", 1)]
def ir_are_names : Ss := (.cons (.ret (.boo true (.cons (.chn .LtE .LtE leD leD (.cst (.int 1)) (.bc "len" (f1 lenD) (.cons (.var 0) .nil)) (.glo "MOST_RULES" (.int 8))) (.cons (.bc "all" (f1 allD) (.cons (.fr are_names_c0) .nil)) (.cons (.call "are_ascending" 1 m_are_ascending (.cons (.var 0) .nil)) .nil))))) .nil)
def m_are_names : Fn := fnD 2 ir_are_names
/-! ### book_in -/
def book_in_c0 : FE := .comp (.ex (.var 2)) (.nm 5) .no (.call "is_row" 2 m_is_row (.cons (.var 5) (.cons (.bc "len" (f1 lenD) (.cons (.var 1) .nil)) .nil))) [("row", 5)]
def ir_book_in : Ss := (.cons (.ife (.boo false (.cons (.not (.ext (shIsi "str") (semIsi (isB "str")) (.cons (.var 0) .nil))) (.cons (.cmp .NotEq neD (.mth "str" "count" (m1 scountD) (.var 0) (.cons (.cst (.str [58])) .nil)) (.cst (.int 1))) .nil))) (.cons (.ret (.cst .non)) .nil) .nil) (.cons (.asg (.tp (.cons (.nm 3) (.cons (.nm 4) .nil))) (.mth "str" "split" (m1 splitD) (.var 0) (.cons (.cst (.str [58])) .nil))) (.cons (.set 1 (.mth "str" "split" (m1 splitD) (.var 3) (.cons (.cst (.str [32])) .nil))) (.cons (.ife (.boo false (.cons (.not (.call "are_names" 1 m_are_names (.cons (.var 1) .nil))) (.cons (.boo true (.cons (.cmp .NotEq neD (.var 4) (.cst (.str []))) (.cons (.cmp .NotEq neD (.idx ixD (.var 4) (.cst (.int 0))) (.cst (.str [32]))) .nil))) .nil))) (.cons (.ret (.cst .non)) .nil) .nil) (.cons (.set 2 (.ife (.cmp .NotEq neD (.var 4) (.cst (.str []))) (.mth "str" "split" (m1 splitD) (.slc slD (.var 4) (.yes (.cst (.int 1))) .no) (.cons (.cst (.str [32])) .nil)) (.fr (.dsp .nil)))) (.cons (.ife (.boo false (.cons (.cmp .Gt gtD (.bc "len" (f1 lenD) (.cons (.var 2) .nil)) (.glo "MOST_ROWS" (.int 20))) (.cons (.not (.bc "all" (f1 allD) (.cons (.fr book_in_c0) .nil))) .nil))) (.cons (.ret (.cst .non)) .nil) .nil) (.cons (.ret (.tup (.cons (.bt "tuple" (f1 tupleD) (.cons (.var 1) .nil)) (.cons (.bt "tuple" (f1 tupleD) (.cons (.var 2) .nil)) .nil)))) .nil)))))))
def m_book_in : Fn := fnD 6 ir_book_in
/-! ### check_row -/
def ir_check_row : Ss := (.cons (.ife (.not (.call "is_row" 2 m_is_row (.cons (.var 1) (.cons (.bc "len" (f1 lenD) (.cons (.ext (shFld "rules") (semFld 5) (.cons (.var 0) .nil)) .nil)) .nil)))) (.cons .never .nil) .nil) .nil)
def m_check_row : Fn := fnD 2 ir_check_row
/-! ### _law_labels -/
def law_labels_c0 : FE := .comp (.rg1 (.var 1)) (.nm 3) .no (.own 2 "pop" oPop (.cons (.call "_law_draw" 2 m_law_draw (.cons (.var 0) (.cons (.bc "len" (f1 lenD) (.cons (.var 2) .nil)) .nil))) .nil)) [("_law_k", 3)]
def ir_law_labels : Ss := (.cons (.own 2 (.dsp (.cons (.cst (.str [97])) (.cons (.cst (.str [98])) (.cons (.cst (.str [99, 111, 115, 116])) (.cons (.cst (.str [102, 97, 114])) (.cons (.cst (.str [108, 101, 118, 101, 108])) (.cons (.cst (.str [110, 101, 97, 114])) (.cons (.cst (.str [115, 97, 102, 101])) (.cons (.cst (.str [116])) (.cons (.cst (.str [119, 105, 100, 116, 104])) (.cons (.cst (.str [122, 122, 122, 122, 122, 122, 122, 122])) .nil)))))))))))) (.cons (.ret (.fr (.bl "sorted" (g1 sortedD) (.cons (.fr law_labels_c0) .nil)))) .nil))
def m_law_labels : Fn := fnD 4 ir_law_labels
/-! ### _law_holds -/
def law_holds_c0 : FE := .comp (.ex (.var 1)) (.nm 3) (.yes (.cmp .NotEq neD (.idx ixD (.var 0) (.var 3)) (.cst (.str [46])))) (.idx ixD (.var 0) (.var 3)) [("_law_k", 3)]
def ir_law_holds : Ss := (.cons (.setC 2 law_holds_c0) (.cons (.ret (.boo false (.cons (.cmp .Eq eqD (.var 2) (.fr (.dsp .nil))) (.cons (.cmp .Eq eqD (.idx ixD (.var 2) (.cst (.int 0))) (.cst (.str [43]))) .nil)))) .nil))
def m_law_holds : Fn := fnD 4 ir_law_holds
/-! ### _law_flipped -/
def law_flipped_c0 : FE := .comp (.ex (.var 0)) (.nm 1) .no (.ext (shDsub [([43], [45]), ([45], [43]), ([46], [46])]) (semDsub [([43], [45]), ([45], [43]), ([46], [46])]) (.cons (.var 1) .nil)) [("_law_sign", 1)]
def ir_law_flipped : Ss := (.cons (.ret (.mth "str" "join" (m1 joinD) (.cst (.str [])) (.cons (.fr law_flipped_c0) .nil))) .nil)
def m_law_flipped : Fn := fnD 2 ir_law_flipped
/-! ### _law_signs -/
def law_signs_c0 : FE := .comp (.rg1 (.var 1)) (.nm 2) .no (.idx ixD (.cst (.str [43, 45, 46, 46])) (.call "_law_draw" 2 m_law_draw (.cons (.var 0) (.cons (.cst (.int 4)) .nil)))) [("_law_k", 2)]
def ir_law_signs : Ss := (.cons (.ret (.mth "str" "join" (m1 joinD) (.cst (.str [])) (.cons (.fr law_signs_c0) .nil))) .nil)
def m_law_signs : Fn := fnD 3 ir_law_signs
/-! ### _law_rows -/
def law_rows_b0 : Ss := (.cons (.set 9 (.call "_law_signs" 2 m_law_signs (.cons (.var 0) (.cons (.var 1) .nil)))) (.cons (.set 10 (.cmp .Gt gtD (.call "_law_draw" 2 m_law_draw (.cons (.var 0) (.cons (.var 3) .nil))) (.cst (.int 0)))) (.cons (.exp (.app 5 (.cons (.ife (.boo false (.cons (.call "_law_holds" 2 m_law_holds (.cons (.var 9) (.cons (.esc (.var 8)) .nil))) (.cons (.not (.var 10)) .nil))) (.var 9) (.call "_law_flipped" 1 m_law_flipped (.cons (.var 9) .nil))) .nil))) .nil)))
def law_rows_b1 : Ss := (.cons (.exp (.app 8 (.cons (.own 7 "pop" oPop (.cons (.call "_law_draw" 2 m_law_draw (.cons (.var 0) (.cons (.bc "len" (f1 lenD) (.cons (.var 7) .nil)) .nil))) .nil)) .nil))) .nil)
def ir_law_rows : Ss := (.cons (.par 7 8 (.o (.ext shLrg semLrg (.cons (.var 1) .nil))) (.o (.dsp .nil))) (.cons (.fors (.rg1 (.var 1)) (.nm 4) law_rows_b1) (.cons (.own 5 (.dsp .nil)) (.cons (.fors (.rg1 (.call "_law_draw" 2 m_law_draw (.cons (.var 0) (.cons (.bin .Add addD (.var 2) (.cst (.int 1))) .nil)))) (.nm 6) law_rows_b0) (.cons (.ret (.esc (.var 5))) .nil)))))
def m_law_rows : Fn := fnD 11 ir_law_rows
/-! ### _law_spelled -/
def ir_law_spelled : Ss := (.cons (.ret (.mth "str" "join" (m1 joinD) (.cst (.str [32])) (.cons (.bin .Add addD (.fr (.dsp (.cons (.bin .Add addD (.mth "str" "join" (m1 joinD) (.cst (.str [32])) (.cons (.var 0) .nil)) (.cst (.str [58]))) .nil))) (.fr (.blt "list" (g1 listD) (.cons (.var 1) .nil)))) .nil))) .nil)
def m_law_spelled : Fn := fnD 2 ir_law_spelled
/-! ### _law_book -/
def ir_law_book : Ss := (.cons (.set 4 (.bin .Add addD (.var 1) (.call "_law_draw" 2 m_law_draw (.cons (.var 0) (.cons (.var 2) .nil))))) (.cons (.ret (.tup (.cons (.call "_law_labels" 2 m_law_labels (.cons (.var 0) (.cons (.var 4) .nil))) (.cons (.call "_law_rows" 4 m_law_rows (.cons (.var 0) (.cons (.var 4) (.cons (.var 3) (.cons (.cst (.int 9)) .nil))))) .nil)))) .nil))
def m_law_book : Fn := fnD 5 ir_law_book
/-! ### Book.__init__ -/
def ir_Book_init : Ss := (.cons (.set 2 (.call "book_in" 1 m_book_in (.cons (.var 1) .nil))) (.cons (.ife (.cmp .Is isD2 (.var 2) (.cst .non)) (.cons .never .nil) .nil) (.cons (.asg (.ext (shFld "written") (semGf 4) (.cons (.var 0) .nil)) (.var 1)) (.cons (.asg (.tp (.cons (.ext (shFld "rules") (semGf 5) (.cons (.var 0) .nil)) (.cons (.ext (shFld "lines") (semGf 6) (.cons (.var 0) .nil)) .nil))) (.var 2)) .nil))))
def m_Book_init : Fn := fnD 3 ir_Book_init
/-! ### check_book -/
def ir_check_book : Ss := (.cons (.ife (.not (.ext (shIsi "Book") (semIsi (isC 0)) (.cons (.var 0) .nil))) (.cons .never .nil) .nil) .nil)
def m_check_book : Fn := fnD 1 ir_check_book
/-! ### check_lot -/
def check_lot_b0 : Ss := (.cons (.ife (.boo false (.cons (.not (.call "is_between" 3 m_is_between (.cons (.var 3) (.cons (.cst (.int 0)) (.cons (.bin .Sub subD (.var 1) (.cst (.int 1))) .nil))))) (.cons (.boo true (.cons (.cmp .Gt gtD (.var 2) (.cst (.int 0))) (.cons (.cmp .LtE leD (.var 3) (.idx ixD (.var 0) (.bin .Sub subD (.var 2) (.cst (.int 1))))) .nil))) .nil))) (.cons .never .nil) .nil) .nil)
def ir_check_lot : Ss := (.cons (.ife (.not (.ext (shIsi "tuple") (semIsi (isB "tuple")) (.cons (.var 0) .nil))) (.cons .never .nil) .nil) (.cons (.fors (.ext shEnum semEnum (.cons (.var 0) .nil)) (.tp (.cons (.nm 2) (.cons (.nm 3) .nil))) check_lot_b0) .nil))
def m_check_lot : Fn := fnD 4 ir_check_lot
/-! ### turned -/
def turned_c0 : FE := .comp (.ex (.var 0)) (.nm 1) .no (.ext (shDsub [([43], [45]), ([45], [43]), ([46], [46])]) (semDsub [([43], [45]), ([45], [43]), ([46], [46])]) (.cons (.var 1) .nil)) [("sign", 1)]
def ir_turned : Ss := (.cons (.ret (.mth "str" "join" (m1 joinD) (.cst (.str [])) (.cons (.fr turned_c0) .nil))) .nil)
def m_turned : Fn := fnD 2 ir_turned
/-! ### opposite -/
def ir_opposite : Ss := (.cons (.ife (.boo false (.cons (.not (.ext (shIsi "str") (semIsi (isB "str")) (.cons (.var 0) .nil))) (.cons (.not (.chn .LtE .LtE leD leD (.cst (.int 1)) (.bc "len" (f1 lenD) (.cons (.var 0) .nil)) (.glo "MOST_RULES" (.int 8)))) (.cons (.not (.call "is_row" 2 m_is_row (.cons (.var 0) (.cons (.bc "len" (f1 lenD) (.cons (.var 0) .nil)) .nil)))) .nil)))) (.cons .never .nil) .nil) (.cons (.ret (.call "turned" 1 m_turned (.cons (.var 0) .nil))) .nil))
def m_opposite : Fn := fnD 1 ir_opposite
/-! ### fused -/
def fused_c0 : FE := .comp (.ex (.var 0)) (.nm 5) .no (.idx ixD (.var 5) (.var 3)) [("row", 5)]
def fused_b0 : Ss := (.cons (.setC 4 fused_c0) (.cons (.set 2 (.bin .Add addD (.var 2) (.ife (.cmp .In inD (.cst (.str [45])) (.var 4)) (.cst (.str [45])) (.ife (.cmp .In inD (.cst (.str [43])) (.var 4)) (.cst (.str [43])) (.cst (.str [46])))))) .nil))
def ir_fused : Ss := (.cons (.set 2 (.cst (.str []))) (.cons (.fors (.rg1 (.var 1)) (.nm 3) fused_b0) (.cons (.ret (.var 2)) .nil)))
def m_fused : Fn := fnD 6 ir_fused
/-! ### fusion -/
def fusion_c0 : FE := .comp (.ex (.var 1)) (.nm 2) .no (.idx ixD (.ext (shFld "lines") (semFld 6) (.cons (.var 0) .nil)) (.var 2)) [("k", 2)]
def ir_fusion : Ss := (.cons (.exp (.call "check_book" 1 m_check_book (.cons (.var 0) .nil))) (.cons (.exp (.call "check_lot" 2 m_check_lot (.cons (.var 1) (.cons (.bc "len" (f1 lenD) (.cons (.ext (shFld "lines") (semFld 6) (.cons (.var 0) .nil)) .nil)) .nil)))) (.cons (.ret (.call "fused" 2 m_fused (.cons (.fr fusion_c0) (.cons (.bc "len" (f1 lenD) (.cons (.ext (shFld "rules") (semFld 5) (.cons (.var 0) .nil)) .nil)) .nil)))) .nil)))
def m_fusion : Fn := fnD 3 ir_fusion
/-! ### _law_all -/
def law_all_c0 : FE := .comp (.rg1 (.var 0)) (.nm 5) (.yes (.cmp .NotIn ninD (.var 5) (.var 4))) (.bin .Add addD (.var 4) (.tup (.cons (.var 5) .nil))) [("_law_k", 5)]
def law_all_b0 : Ss := (.cons (.set 3 (.bin .Add addD (.var 3) (.fr law_all_c0))) .nil)
def law_all_b1 : Ss := (.cons (.set 3 (.fr (.dsp .nil))) (.cons (.fors (.ex (.var 1)) (.nm 4) law_all_b0) (.cons (.set 1 (.var 3)) .nil)))
def ir_law_all : Ss := (.cons (.set 1 (.fr (.dsp (.cons (.tup .nil) .nil)))) (.cons (.fors (.rg1 (.var 0)) (.nm 2) law_all_b1) (.cons (.ret (.var 1)) .nil)))
def m_law_all : Fn := fnD 6 ir_law_all
/-! ### _law_fitting -/
def law_fitting_v1_c0 : FE := .comp (.ex (.var 2)) (.nm 4) (.yes (.call "_law_holds" 2 m_law_holds (.cons (.var 3) (.cons (.var 4) .nil)))) (.var 4) [("_law_order_here", 4)]
def law_fitting_v1_b0 : Ss := (.cons (.setC 2 law_fitting_v1_c0) .nil)
def ir_law_fitting_v1 : Ss := (.cons (.set 2 (.call "_law_all" 1 m_law_all (.cons (.var 1) .nil))) (.cons (.fors (.ex (.var 0)) (.nm 3) law_fitting_v1_b0) (.cons (.ret (.var 2)) .nil)))
def m_law_fitting_v1 : Fn := fnD 5 ir_law_fitting_v1
/-! ### _law_lots -/
def law_lots_c0 : FE := .comp (.ex (.var 1)) (.nm 3) .no (.bin .Add addD (.var 3) (.tup (.cons (.var 2) .nil))) [("_law_some_x", 3)]
def law_lots_b0 : Ss := (.cons (.set 1 (.bin .Add addD (.var 1) (.fr law_lots_c0))) .nil)
def ir_law_lots : Ss := (.cons (.set 1 (.fr (.dsp (.cons (.tup .nil) .nil)))) (.cons (.fors (.rg1 (.var 0)) (.nm 2) law_lots_b0) (.cons (.ret (.var 1)) .nil)))
def m_law_lots : Fn := fnD 4 ir_law_lots
/-! ### _law_fused -/
def law_fused_c0 : FE := .comp (.ex (.var 0)) (.nm 5) .no (.idx ixD (.var 5) (.var 3)) [("_law_row_here", 5)]
def law_fused_b0 : Ss := (.cons (.setC 4 law_fused_c0) (.cons (.exp (.app 2 (.cons (.ife (.cmp .Gt gtD (.mth "list" "count" (m1 lcountD) (.var 4) (.cons (.cst (.str [45])) .nil)) (.cst (.int 0))) (.cst (.str [45])) (.ife (.cmp .Gt gtD (.mth "list" "count" (m1 lcountD) (.var 4) (.cons (.cst (.str [43])) .nil)) (.cst (.int 0))) (.cst (.str [43])) (.cst (.str [46])))) .nil))) .nil))
def ir_law_fused : Ss := (.cons (.own 2 (.dsp .nil)) (.cons (.fors (.rg1 (.var 1)) (.nm 3) law_fused_b0) (.cons (.ret (.mth "str" "join" (m1 joinD) (.cst (.str [])) (.cons (.var 2) .nil))) .nil)))
def m_law_fused : Fn := fnD 6 ir_law_fused
/-! ### next_layer -/
def next_layer_c0 : FE := .comp (.ex (.var 0)) (.nm 4) .no (.cmp .Eq eqD (.idx ixD (.var 4) (.var 3)) (.cst (.str [45]))) [("row", 4)]
def next_layer_c1 : FE := .comp (.rg1 (.var 2)) (.nm 3) (.yes (.boo true (.cons (.cmp .NotIn ninD (.var 3) (.var 1)) (.cons (.not (.bc "any" (f1 anyD) (.cons (.fr next_layer_c0) .nil))) .nil)))) (.var 3) [("rule", 3)]
def ir_next_layer : Ss := (.cons (.ret (.fr next_layer_c1)) .nil)
def m_next_layer : Fn := fnD 5 ir_next_layer
/-! ### walked -/
def walked_c0 : FE := .comp (.rg1 (.var 1)) (.nm 7) (.yes (.cmp .NotIn ninD (.var 7) (.var 5))) (.var 7) [("rule", 7)]
def walked_c1 : FE := .comp (.ex (.var 6)) (.nm 7) .no (.cmp .Eq eqD (.idx ixD (.idx ixD (.var 0) (.var 8)) (.var 7)) (.cst (.str [43]))) [("rule", 7)]
def walked_c2 : FE := .comp (.ex (.var 2)) (.nm 8) (.yes (.not (.bc "any" (f1 anyD) (.cons (.fr walked_c1) .nil)))) (.var 8) [("k", 8)]
def walked_c3 : FE := .comp (.ex (.var 2)) (.nm 8) .no (.idx ixD (.var 0) (.var 8)) [("k", 8)]
def walked_b0 : Ss := (.cons (.set 6 (.call "next_layer" 3 m_next_layer (.cons (.fr walked_c3) (.cons (.var 5) (.cons (.var 1) .nil))))) (.cons (.ife (.cmp .Eq eqD (.var 6) (.fr (.dsp .nil))) (.cons (.ret (.tup (.cons (.esc (.var 4)) (.cons (.var 2) .nil)))) .nil) .nil) (.cons (.exp (.app 4 (.cons (.bt "tuple" (f1 tupleD) (.cons (.var 6) .nil)) .nil))) (.cons (.exp (.own 5 "extend" oExt (.cons (.var 6) .nil))) (.cons (.setC 2 walked_c2) .nil)))))
def walked_c4 : FE := .comp (.ext shEnum semEnum (.cons (.var 0) .nil)) (.tp [8, 9]) (.yes (.boo false (.cons (.cmp .In inD (.cst (.str [43])) (.var 9)) (.cons (.cmp .In inD (.cst (.str [45])) (.var 9)) .nil)))) (.var 8) [("k", 8), ("row", 9)]
def ir_walked : Ss := (.cons (.par 4 5 (.o (.dsp .nil)) (.o (.dsp .nil))) (.cons (.setC 2 walked_c4) (.cons (.whil 1000 (.cmp .NotEq neD (.var 2) (.fr (.dsp .nil))) walked_b0) (.cons (.setC 3 walked_c0) (.cons (.ret (.tup (.cons (.ife (.cmp .NotEq neD (.var 3) (.fr (.dsp .nil))) (.fr (.dsp (.star (.var 4) (.cons (.bt "tuple" (f1 tupleD) (.cons (.var 3) .nil)) .nil)))) (.esc (.var 4))) (.cons (.fr (.dsp .nil)) .nil)))) .nil)))))
def m_walked : Fn := fnD 10 ir_walked
/-! ### do_fit -/
def ir_do_fit : Ss := (.cons (.ret (.cmp .Eq eqD (.idx ixD (.call "walked" 2 m_walked (.cons (.var 0) (.cons (.var 1) .nil))) (.cst (.int 1))) (.fr (.dsp .nil)))) .nil)
def m_do_fit : Fn := fnD 2 ir_do_fit
/-! ### layers -/
def ir_layers : Ss := (.cons (.exp (.call "check_book" 1 m_check_book (.cons (.var 0) .nil))) (.cons (.asg (.tp (.cons (.nm 1) (.cons (.nm 2) .nil))) (.call "walked" 2 m_walked (.cons (.ext (shFld "lines") (semFld 6) (.cons (.var 0) .nil)) (.cons (.bc "len" (f1 lenD) (.cons (.ext (shFld "rules") (semFld 5) (.cons (.var 0) .nil)) .nil)) .nil)))) (.cons (.ret (.ife (.cmp .Eq eqD (.var 2) (.fr (.dsp .nil))) (.bt "tuple" (f1 tupleD) (.cons (.var 1) .nil)) (.cst .non))) .nil)))
def m_layers : Fn := fnD 3 ir_layers
/-! ### left_over -/
def ir_left_over : Ss := (.cons (.exp (.call "check_book" 1 m_check_book (.cons (.var 0) .nil))) (.cons (.set 1 (.idx ixD (.call "walked" 2 m_walked (.cons (.ext (shFld "lines") (semFld 6) (.cons (.var 0) .nil)) (.cons (.bc "len" (f1 lenD) (.cons (.ext (shFld "rules") (semFld 5) (.cons (.var 0) .nil)) .nil)) .nil))) (.cst (.int 1)))) (.cons (.ret (.ife (.cmp .NotEq neD (.var 1) (.fr (.dsp .nil))) (.bt "tuple" (f1 tupleD) (.cons (.var 1) .nil)) (.cst .non))) .nil)))
def m_left_over : Fn := fnD 2 ir_left_over
/-! ### quarrel_in -/
def quarrel_in_c0 : FE := .comp (.ex (.var 4)) (.nm 5) .no (.idx ixD (.var 0) (.var 5)) [("other", 5)]
def quarrel_in_c1 : FE := .comp (.ex (.var 2)) (.nm 5) (.yes (.cmp .NotEq neD (.var 5) (.var 3))) (.var 5) [("other", 5)]
def quarrel_in_b0 : Ss := (.cons (.setC 4 quarrel_in_c1) (.cons (.set 2 (.ife (.call "do_fit" 2 m_do_fit (.cons (.fr quarrel_in_c0) (.cons (.var 1) .nil))) (.var 2) (.var 4))) .nil))
def ir_quarrel_in : Ss := (.cons (.set 2 (.idx ixD (.call "walked" 2 m_walked (.cons (.var 0) (.cons (.var 1) .nil))) (.cst (.int 1)))) (.cons (.ife (.cmp .Eq eqD (.var 2) (.fr (.dsp .nil))) (.cons (.ret (.cst .non)) .nil) .nil) (.cons (.fors (.ex (.bt "tuple" (f1 tupleD) (.cons (.var 2) .nil))) (.nm 3) quarrel_in_b0) (.cons (.ret (.bt "tuple" (f1 tupleD) (.cons (.var 2) .nil))) .nil))))
def m_quarrel_in : Fn := fnD 6 ir_quarrel_in
/-! ### quarrel -/
def ir_quarrel : Ss := (.cons (.exp (.call "check_book" 1 m_check_book (.cons (.var 0) .nil))) (.cons (.ret (.call "quarrel_in" 2 m_quarrel_in (.cons (.ext (shFld "lines") (semFld 6) (.cons (.var 0) .nil)) (.cons (.bc "len" (f1 lenD) (.cons (.ext (shFld "rules") (semFld 5) (.cons (.var 0) .nil)) .nil)) .nil)))) .nil))
def m_quarrel : Fn := fnD 1 ir_quarrel
/-! ### is_sure -/
def ir_is_sure : Ss := (.cons (.ret (.boo false (.cons (.cmp .NotIn ninD (.cst (.str [45])) (.var 2)) (.cons (.not (.call "do_fit" 2 m_do_fit (.cons (.fr (.dsp (.star (.var 0) (.cons (.call "turned" 1 m_turned (.cons (.var 2) .nil)) .nil)))) (.cons (.var 1) .nil)))) .nil)))) .nil)
def m_is_sure : Fn := fnD 3 ir_is_sure
/-! ### needless -/
def needless_c0 : FE := .comp (.ext shEnum semEnum (.cons (.var 1) .nil)) (.tp [3, 4]) (.yes (.call "is_sure" 3 m_is_sure (.cons (.bin .Add addD (.slc slD (.var 1) .no (.yes (.var 3))) (.slc slD (.var 1) (.yes (.bin .Add addD (.var 3) (.cst (.int 1)))) .no)) (.cons (.var 2) (.cons (.var 4) .nil))))) (.var 3) [("k", 3), ("row", 4)]
def ir_needless : Ss := (.cons (.exp (.call "check_book" 1 m_check_book (.cons (.var 0) .nil))) (.cons (.par 1 2 (.v (.ext (shFld "lines") (semFld 6) (.cons (.var 0) .nil))) (.v (.bc "len" (f1 lenD) (.cons (.ext (shFld "rules") (semFld 5) (.cons (.var 0) .nil)) .nil)))) (.cons (.ret (.bt "tuple" (f1 tupleD) (.cons (.fr needless_c0) .nil))) .nil)))
def m_needless : Fn := fnD 5 ir_needless
/-! ### are_alike -/
def are_alike_c0 : FE := .comp (.ex (.ext (shFld "lines") (semFld 6) (.cons (.var 0) .nil))) (.nm 3) .no (.call "is_sure" 3 m_is_sure (.cons (.ext (shFld "lines") (semFld 6) (.cons (.var 1) .nil)) (.cons (.var 2) (.cons (.var 3) .nil)))) [("row", 3)]
def are_alike_c1 : FE := .comp (.ex (.ext (shFld "lines") (semFld 6) (.cons (.var 1) .nil))) (.nm 3) .no (.call "is_sure" 3 m_is_sure (.cons (.ext (shFld "lines") (semFld 6) (.cons (.var 0) .nil)) (.cons (.var 2) (.cons (.var 3) .nil)))) [("row", 3)]
def ir_are_alike : Ss := (.cons (.set 2 (.bc "len" (f1 lenD) (.cons (.ext (shFld "rules") (semFld 5) (.cons (.var 0) .nil)) .nil))) (.cons (.ife (.cmp .NotEq neD (.ext (shFld "rules") (semFld 5) (.cons (.var 0) .nil)) (.ext (shFld "rules") (semFld 5) (.cons (.var 1) .nil))) (.cons (.ret (.cst (.bl false))) .nil) .nil) (.cons (.ife (.not (.bc "all" (f1 allD) (.cons (.fr are_alike_c1) .nil))) (.cons (.ret (.cst (.bl false))) .nil) .nil) (.cons (.ret (.bc "all" (f1 allD) (.cons (.fr are_alike_c0) .nil))) .nil))))
def m_are_alike : Fn := fnD 4 ir_are_alike
/-! ### alike -/
def ir_alike : Ss := (.cons (.exp (.call "check_book" 1 m_check_book (.cons (.var 0) .nil))) (.cons (.exp (.call "check_book" 1 m_check_book (.cons (.var 1) .nil))) (.cons (.ret (.call "are_alike" 2 m_are_alike (.cons (.var 0) (.cons (.var 1) .nil)))) .nil)))
def m_alike : Fn := fnD 2 ir_alike
/-! ### holds_for -/
def holds_for_b0 : Ss := (.cons (.ife (.cmp .NotEq neD (.idx ixD (.var 0) (.var 2)) (.cst (.str [46]))) (.cons (.ret (.cmp .Eq eqD (.idx ixD (.var 0) (.var 2)) (.cst (.str [43])))) .nil) .nil) .nil)
def ir_holds_for : Ss := (.cons (.fors (.ex (.var 1)) (.nm 2) holds_for_b0) (.cons (.ret (.cst (.bl true))) .nil))
def m_holds_for : Fn := fnD 3 ir_holds_for
/-! ### is_ranking -/
def is_ranking_c0 : FE := .comp (.ex (.var 0)) (.nm 2) .no (.call "is_between" 3 m_is_between (.cons (.var 2) (.cons (.cst (.int 0)) (.cons (.bin .Sub subD (.var 1) (.cst (.int 1))) .nil)))) [("rule", 2)]
def ir_is_ranking : Ss := (.cons (.ife (.boo false (.cons (.not (.ext (shIsi "tuple") (semIsi (isB "tuple")) (.cons (.var 0) .nil))) (.cons (.cmp .NotEq neD (.bc "len" (f1 lenD) (.cons (.var 0) .nil)) (.var 1)) .nil))) (.cons (.ret (.cst (.bl false))) .nil) .nil) (.cons (.ret (.boo true (.cons (.bc "all" (f1 allD) (.cons (.fr is_ranking_c0) .nil)) (.cons (.cmp .Eq eqD (.fr (.bl "sorted" (g1 sortedD) (.cons (.var 0) .nil))) (.fr (.ext shLrg semLrg (.cons (.var 1) .nil)))) .nil)))) .nil))
def m_is_ranking : Fn := fnD 3 ir_is_ranking
/-! ### check_ranking -/
def ir_check_ranking : Ss := (.cons (.ife (.not (.call "is_ranking" 2 m_is_ranking (.cons (.var 0) (.cons (.var 1) .nil)))) (.cons .never .nil) .nil) .nil)
def m_check_ranking : Fn := fnD 2 ir_check_ranking
/-! ### fits -/
def fits_c0 : FE := .comp (.ex (.ext (shFld "lines") (semFld 6) (.cons (.var 0) .nil))) (.nm 2) .no (.call "holds_for" 2 m_holds_for (.cons (.var 2) (.cons (.var 1) .nil))) [("row", 2)]
def ir_fits : Ss := (.cons (.exp (.call "check_book" 1 m_check_book (.cons (.var 0) .nil))) (.cons (.exp (.call "check_ranking" 2 m_check_ranking (.cons (.var 1) (.cons (.bc "len" (f1 lenD) (.cons (.ext (shFld "rules") (semFld 5) (.cons (.var 0) .nil)) .nil)) .nil)))) (.cons (.ret (.bc "all" (f1 allD) (.cons (.fr fits_c0) .nil))) .nil)))
def m_fits : Fn := fnD 3 ir_fits
/-! ### holds -/
def ir_holds : Ss := (.cons (.exp (.call "check_book" 1 m_check_book (.cons (.var 0) .nil))) (.cons (.exp (.call "check_row" 2 m_check_row (.cons (.var 0) (.cons (.var 1) .nil)))) (.cons (.exp (.call "check_ranking" 2 m_check_ranking (.cons (.var 2) (.cons (.bc "len" (f1 lenD) (.cons (.ext (shFld "rules") (semFld 5) (.cons (.var 0) .nil)) .nil)) .nil)))) (.cons (.ret (.call "holds_for" 2 m_holds_for (.cons (.var 1) (.cons (.var 2) .nil)))) .nil))))
def m_holds : Fn := fnD 3 ir_holds
/-! ### _law_needless -/
def law_needless_c0 : FE := .comp (.ex (.var 4)) (.nm 5) (.yes (.not (.call "_law_holds" 2 m_law_holds (.cons (.idx ixD (.var 0) (.var 3)) (.cons (.var 5) .nil))))) (.var 5) [("_law_order_here", 5)]
def law_needless_b0 : Ss := (.cons (.set 4 (.call "_law_fitting" 2 m_law_fitting_v1 (.cons (.bin .Add addD (.slc slD (.var 0) .no (.yes (.var 3))) (.slc slD (.var 0) (.yes (.bin .Add addD (.var 3) (.cst (.int 1)))) .no)) (.cons (.var 1) .nil)))) (.cons (.ife (.cmp .Eq eqD (.fr law_needless_c0) (.fr (.dsp .nil))) (.cons (.exp (.app 2 (.cons (.var 3) .nil))) .nil) .nil) .nil))
def ir_law_needless : Ss := (.cons (.own 2 (.dsp .nil)) (.cons (.fors (.rg1 (.bc "len" (f1 lenD) (.cons (.var 0) .nil))) (.nm 3) law_needless_b0) (.cons (.ret (.bt "tuple" (f1 tupleD) (.cons (.var 2) .nil))) .nil)))
def m_law_needless : Fn := fnD 6 ir_law_needless
/-! ### _law_right -/
def law_right_v14_b0 : Ss := (.cons (.set 10 (.boo true (.cons (.cmp .Eq eqD (.idx ixD (.idx ixD (.var 2) (.var 8)) (.cst (.int 0))) (.idx ixD (.idx ixD (.var 2) (.var 11)) (.cst (.int 0)))) (.cons (.cmp .Eq eqD (.idx ixD (.var 4) (.var 8)) (.idx ixD (.var 4) (.var 11))) .nil)))) (.cons (.ife (.cmp .NotEq neD (.bc "repr" (f1 reprD) (.cons (.fr (.dsp (.cons (.call "alike" 2 m_alike (.cons (.var 9) (.cons (.var 12) .nil))) (.cons (.ext (shCallK "alike" ["other", "book"]) (semCallK 2 m_alike 2 [1, 0]) (.cons (.var 12) (.cons (.var 9) .nil))) .nil)))) .nil)) (.bc "repr" (f1 reprD) (.cons (.fr (.dsp (.cons (.var 10) (.cons (.var 10) .nil)))) .nil))) (.cons (.ret (.cst (.bl false))) .nil) .nil) .nil))
def law_right_v14_b1 : Ss := (.cons (.set 10 (.call "_law_needless" 2 m_law_needless (.cons (.idx ixD (.idx ixD (.var 2) (.var 8)) (.cst (.int 1))) (.cons (.var 1) .nil)))) (.cons (.ife (.cmp .NotEq neD (.fr (.dsp (.cons (.call "needless" 1 m_needless (.cons (.var 9) .nil)) (.cons (.ext (shCallK "needless" ["book"]) (semCallK 1 m_needless 1 [0]) (.cons (.var 9) .nil)) .nil)))) (.fr (.dsp (.cons (.var 10) (.cons (.var 10) .nil))))) (.cons (.ret (.cst (.bl false))) .nil) .nil) (.cons (.fors (.ext shEnum semEnum (.cons (.var 3) .nil)) (.tp (.cons (.nm 11) (.cons (.nm 12) .nil))) law_right_v14_b0) .nil)))
def law_right_v14_c0 : FE := .comp (.ex (.var 2)) (.tp [13, 14]) .no (.call "_law_fitting" 2 m_law_fitting_v1 (.cons (.var 14) (.cons (.var 1) .nil))) [("_law_names_here", 13), ("_law_lines", 14)]
def law_right_v14_c1 : FE := .comp (.ex (.var 2)) (.tp [13, 14]) .no (.ext (shCall "Book") (semMk 0 1 m_Book_init) (.cons (.call "_law_spelled" 2 m_law_spelled (.cons (.var 13) (.cons (.var 14) .nil))) .nil)) [("_law_names_here", 13), ("_law_lines", 14)]
def ir_law_right_v14 : Ss := (.cons (.asg (.tp (.cons (.nm 6) (.cons (.nm 7) .nil))) (.call "_law_book" 4 m_law_book (.cons (.var 0) (.cons (.cst (.int 1)) (.cons (.cst (.int 4)) (.cons (.cst (.int 5)) .nil)))))) (.cons (.set 1 (.bc "len" (f1 lenD) (.cons (.var 6) .nil))) (.cons (.set 2 (.fr (.dsp (.cons (.tup (.cons (.var 6) (.cons (.var 7) .nil))) (.cons (.tup (.cons (.var 6) (.cons (.fr (.ext shStp semStp (.cons (.var 7) (.cons (.un .USub negD (.cst (.int 1))) .nil)))) .nil))) (.cons (.tup (.cons (.var 6) (.cons (.slc slD (.var 7) .no (.yes (.un .USub negD (.cst (.int 1))))) .nil))) .nil)))))) (.cons (.set 2 (.bin .Add addD (.var 2) (.fr (.dsp (.cons (.tup (.cons (.var 6) (.cons (.bin .Add addD (.var 7) (.fr (.dsp (.cons (.bin .Mult mulD (.cst (.str [43])) (.var 1)) .nil)))) .nil))) .nil))))) (.cons (.set 2 (.bin .Add addD (.var 2) (.fr (.dsp (.cons (.tup (.cons (.var 6) (.cons (.bin .Add addD (.var 7) (.fr (.dsp (.cons (.call "_law_signs" 2 m_law_signs (.cons (.var 0) (.cons (.var 1) .nil))) .nil)))) .nil))) (.cons (.tup (.cons (.call "_law_labels" 2 m_law_labels (.cons (.var 0) (.cons (.var 1) .nil))) (.cons (.var 7) .nil))) .nil)))))) (.cons (.set 2 (.bin .Add addD (.var 2) (.fr (.dsp (.cons (.tup (.cons (.var 6) (.cons (.bin .Add addD (.var 7) (.slc slD (.var 7) .no (.yes (.cst (.int 2))))) .nil))) (.cons (.tup (.cons (.var 6) (.cons (.fr (.dsp (.cons (.bin .Mult mulD (.cst (.str [45])) (.var 1)) .nil))) .nil))) (.cons (.tup (.cons (.var 6) (.cons (.bin .Add addD (.var 7) (.fr (.dsp (.cons (.bin .Mult mulD (.cst (.str [45])) (.var 1)) .nil)))) .nil))) .nil))))))) (.cons (.setC 3 law_right_v14_c1) (.cons (.setC 4 law_right_v14_c0) (.cons (.fors (.ext shEnum semEnum (.cons (.var 3) .nil)) (.tp (.cons (.nm 8) (.cons (.nm 9) .nil))) law_right_v14_b1) (.cons (.set 5 (.ext (shCall "Book") (semMk 0 1 m_Book_init) (.cons (.ife (.cmp .NotEq neD (.var 1) (.cst (.int 1))) (.call "_law_spelled" 2 m_law_spelled (.cons (.var 6) (.cons (.fr (.dsp .nil)) .nil))) (.cst (.str [97, 32, 98, 58]))) .nil))) (.cons (.ret (.boo true (.cons (.call "alike" 2 m_alike (.cons (.var 5) (.cons (.var 5) .nil))) (.cons (.not (.call "alike" 2 m_alike (.cons (.ext (shCall "Book") (semMk 0 1 m_Book_init) (.cons (.cst (.str [97, 58])) .nil)) (.cons (.ext (shCall "Book") (semMk 0 1 m_Book_init) (.cons (.cst (.str [97, 32, 98, 58])) .nil)) .nil)))) (.cons (.not (.call "alike" 2 m_alike (.cons (.ext (shCall "Book") (semMk 0 1 m_Book_init) (.cons (.cst (.str [97, 32, 98, 58, 32, 43, 45])) .nil)) (.cons (.ext (shCall "Book") (semMk 0 1 m_Book_init) (.cons (.cst (.str [97, 58])) .nil)) .nil)))) .nil))))) .nil)))))))))))
def m_law_right_v14 : Fn := fnD 15 ir_law_right_v14
/-! ### law -/
def law_v14_c0 : FE := .comp (.rg1 (.bc "max" (f2 max2D) (.cons (.cst (.int 2)) (.cons (.bc "min" (f2 min2D) (.cons (.bc "len" (f1 lenD) (.cons (.var 0) .nil)) (.cons (.cst (.int 4)) .nil))) .nil)))) (.nm 1) .no (.call "_law_right" 1 m_law_right_v14 (.cons (.call "_law_purse" 2 m_law_purse (.cons (.var 0) (.cons (.var 1) .nil))) .nil)) [("_law_spot", 1)]
def ir_law_v14 : Ss := (.cons (.ret (.bc "all" (f1 allD) (.cons (.fr law_v14_c0) .nil))) .nil)
def m_law_v14 : Fn := fnD 2 ir_law_v14
end KK
set_option Elab.async false
set_option linter.all false
set_option maxRecDepth 100000
set_option maxHeartbeats 4000000
/-! DM1: computing with trees: comprehensions and loops whose turns are known. -/
namespace DE
open PySem
/-- a comprehension whose turns change nothing -/
theorem compL_pure {ct : CT} {t : EvT} {f : Ev} {vs : List Nat} {ρ : Rho} {S : Store} (hp : D → Bool) (hf : D → D) : ∀ (ds acc : List D),
    (∀ d ∈ ds, ∃ z1 z2, ctD ct d (ρ, S) = some z1 ∧ t z1 = some (hp d, z2) ∧ (hp d = false → wipeR z2.1 vs = ρ ∧ z2.2 = S) ∧ (hp d = true → ∃ z3, f z2 = some (hf d, z3) ∧ (hf d).plain = true ∧ wipeR z3.1 vs = ρ ∧ z3.2 = S)) →
    acc.length + ds.length ≤ 16777216 → compL ct t f vs ds (ρ, S) acc = some (acc ++ (ds.filter hp).map hf, (ρ, S))
  | [], acc, _, _ => by simp [compL]
  | d :: ds, acc, h, hl => by
    obtain ⟨z1, z2, e1, e2, h1, h2⟩ := h d (List.mem_cons_self ..)
    unfold compL
    rw [e1, Option.bind_some, e2, Option.bind_some]
    cases hb : hp d with
    | false =>
      obtain ⟨q1, q2⟩ := h1 hb
      simp only [Bool.false_eq_true, if_false]
      rw [q1, q2, compL_pure hp hf ds acc (fun e he => h e (List.mem_cons_of_mem _ he)) (by rw [List.length_cons] at hl; omega)]
      simp [hb]
    | true =>
      obtain ⟨z3, e3, p3, q1, q2⟩ := h2 hb
      have hc : Nat.blt acc.length 16777216 = true := by
        rw [List.length_cons] at hl
        exact Nat.ble_eq_true_of_le (by omega)
      simp only [if_true]
      rw [e3, Option.bind_some, p3, hc]
      simp only [Bool.and_self, if_true]
      rw [q1, q2, compL_pure hp hf ds _ (fun e he => h e (List.mem_cons_of_mem _ he)) (by rw [List.length_append]; rw [List.length_cons] at hl; simp; omega)]
      simp [hb]
/-- .. without a test -/
theorem compL_map {ct : CT} {f : Ev} {vs : List Nat} {ρ : Rho} {S : Store} (hf : D → D) (ds : List D)
    (h : ∀ d ∈ ds, ∃ z1 z3, ctD ct d (ρ, S) = some z1 ∧ f z1 = some (hf d, z3) ∧ (hf d).plain = true ∧ wipeR z3.1 vs = ρ ∧ z3.2 = S) (hl : ds.length ≤ 16777216) :
    compL ct (fun z => some (true, z)) f vs ds (ρ, S) [] = some (ds.map hf, (ρ, S)) := by
  have := compL_pure (ct := ct) (t := fun z => some (true, z)) (f := f) (vs := vs) (ρ := ρ) (S := S) (fun _ => true) hf ds [] (fun d hd => by
    obtain ⟨z1, z3, e1, e2, p, q⟩ := h d hd
    exact ⟨z1, z1, e1, rfl, fun h => (by cases h), fun _ => ⟨z3, e2, p, q⟩⟩) (by simpa using hl)
  rw [List.filter_eq_self.mpr (fun _ _ => rfl)] at this
  simpa using this
/-- a comprehension without a test whose turns may change the store: I is kept, each item has P -/
theorem compL_inv {ct : CT} {f : Ev} {vs : List Nat} {ρ : Rho} (I : Store → Prop) (P : D → D → Prop) : ∀ (ds acc : List D) (S : Store), I S →
    (∀ d ∈ ds, ∀ S, I S → ∃ z1 y z3, ctD ct d (ρ, S) = some z1 ∧ f z1 = some (y, z3) ∧ y.plain = true ∧ P d y ∧ wipeR z3.1 vs = ρ ∧ I z3.2) → acc.length + ds.length ≤ 16777216 →
    ∃ ys S', compL ct (fun z => some (true, z)) f vs ds (ρ, S) acc = some (acc ++ ys, (ρ, S')) ∧ I S' ∧ ys.length = ds.length ∧ ∀ p ∈ ds.zip ys, P p.1 p.2
  | [], acc, S, hi, _, _ => ⟨[], S, by simp [compL], hi, rfl, fun p h => by simp at h⟩
  | d :: ds, acc, S, hi, h, hl => by
    obtain ⟨z1, y, z3, e1, e2, p3, hy, q1, q2⟩ := h d (List.mem_cons_self ..) S hi
    have hc : Nat.blt acc.length 16777216 = true := by
      rw [List.length_cons] at hl
      exact Nat.ble_eq_true_of_le (by omega)
    obtain ⟨ys, S', e, i', l', a'⟩ := compL_inv I P ds (acc ++ [y]) z3.2 q2 (fun e he => h e (List.mem_cons_of_mem _ he)) (by rw [List.length_append]; rw [List.length_cons] at hl; simp; omega)
    refine ⟨y :: ys, S', ?_, i', by simp [l'], fun p hp => ?_⟩
    · unfold compL
      rw [e1, Option.bind_some]
      simp only [Option.bind_some, if_true]
      rw [e2, Option.bind_some, p3, hc]
      simp only [Bool.and_self, if_true]
      rw [q1, e]
      simp
    · rw [List.zip_cons_cons] at hp
      rcases List.mem_cons.mp hp with rfl | hp
      · exact hy
      · exact a' p hp
/-- a loop whose turns all go on: J is kept -/
theorem forL_inv {g : EvG} {b : EvS} (J : Nat → Z → Prop) : ∀ (ds : List D) (k : Nat) (z : Z), J k z →
    (∀ i d z, ds[i]? = some d → J (k + i) z → ∃ z1 z2, g d z = some z1 ∧ (b z1 = some (.nx, z2) ∨ b z1 = some (.ct, z2)) ∧ J (k + i + 1) z2) → ∃ z', forL g b ds z = some (.nx, z') ∧ J (k + ds.length) z'
  | [], k, z, hj, _ => ⟨z, rfl, hj⟩
  | d :: ds, k, z, hj, h => by
    obtain ⟨z1, z2, e1, e2, j2⟩ := h 0 d z rfl hj
    obtain ⟨z', e, j'⟩ := forL_inv J ds (k + 1) z2 j2 fun i d' z3 hd hz => by
      obtain ⟨a, b', h1, h2, h3⟩ := h (i + 1) d' z3 (by simpa using hd) (by rw [show k + (i + 1) = k + 1 + i by omega]; exact hz)
      exact ⟨a, b', h1, h2, by rw [show k + 1 + i + 1 = k + (i + 1) + 1 by omega]; exact h3⟩
    refine ⟨z', ?_, by rw [List.length_cons, show k + (ds.length + 1) = k + 1 + ds.length by omega]; exact j'⟩
    unfold forL
    rw [e1, Option.bind_some]
    rcases e2 with e2 | e2
    · rw [e2, Option.bind_some]; exact e
    · rw [e2, Option.bind_some]; exact e
end DE
set_option Elab.async false
set_option linter.all false
set_option maxRecDepth 100000
set_option maxHeartbeats 1000000
/-! PA: the evaluator, applied -/
namespace DE
open PySem
def brDV (i : Nat) (z : Z) : Option (Option DV) → Option (D × Z)
  | some (some (.imm d)) => some (d, z)
  | some (some _) => some (.bor i, z)
  | _ => none
theorem A_var {i : Nat} {z : Z} : evE (.var i) z = brDV i z z.1[i]? := rfl
theorem br_imm {i : Nat} {z : Z} {d : D} : brDV i z (some (some (.imm d))) = some (d, z) := rfl
theorem br_own {i : Nat} {z : Z} {d : List D} : brDV i z (some (some (.own d))) = some (.bor i, z) := rfl
theorem br_brw {i : Nat} {z : Z} {d : List D} : brDV i z (some (some (.brw d))) = some (.bor i, z) := rfl
theorem A_cst {d : D} {z : Z} : evE (.cst d) z = some (d, z) := rfl
theorem A_glo {x : Str} {d : D} {z : Z} : evE (.glo x d) z = some (d, z) := rfl
def kRd2 (f : D → D → Option D) (z : Z) (x y : D) : Option (D × Z) := (f x y).map fun d => (d, z)
def kRd (f : D → D → Option D) (z : Z) (y x : D) : Option (D × Z) := (rd z y).bind (kRd2 f z x)
def bin2 (f : D → D → Option D) (z : Z) (x y : D) : Option (D × Z) := (rd z x).bind (kRd f z y)
def kBin2 (f : D → D → Option D) (x : D) (y : D × Z) : Option (D × Z) := bin2 f y.2 x y.1
def kBin (f : D → D → Option D) (b : E) (x : D × Z) : Option (D × Z) := (evE b x.2).bind (kBin2 f x.1)
theorem A_bin {o : Operator} {f : D → D → Option D} {a b : E} {z : Z} : evE (.bin o f a b) z = (evE a z).bind (kBin f b) := rfl
theorem A_cmp {o : CmpOp} {f : D → D → Option D} {a b : E} {z : Z} : evE (.cmp o f a b) z = (evE a z).bind (kBin f b) := rfl
theorem A_idx {f : D → D → Option D} {a b : E} {z : Z} : evE (.idx f a b) z = (evE a z).bind (kBin f b) := rfl
def chn2 (f : D → D → Option D) (c : E) (z : Z) (y : D) : D → Option (D × Z)
  | .bl true => (evE c z).bind (kBin2 f y)
  | .bl false => some (.bl false, z)
  | _ => none
def kChn4 (f f' : D → D → Option D) (c : E) (y : D × Z) (x' y' : D) : Option (D × Z) := (f x' y').bind (chn2 f' c y.2 y.1)
def kChn3 (f f' : D → D → Option D) (c : E) (y : D × Z) (x' : D) : Option (D × Z) := (rd y.2 y.1).bind (kChn4 f f' c y x')
def kChn2 (f f' : D → D → Option D) (c : E) (x : D) (y : D × Z) : Option (D × Z) := (rd y.2 x).bind (kChn3 f f' c y)
def kChn (f f' : D → D → Option D) (b c : E) (x : D × Z) : Option (D × Z) := (evE b x.2).bind (kChn2 f f' c x.1)
theorem A_chn {o o' : CmpOp} {f f' : D → D → Option D} {a b c : E} {z : Z} : evE (.chn o o' f f' a b c) z = (evE a z).bind (kChn f f' b c) := rfl
theorem chn_if {f : D → D → Option D} {c : E} {z : Z} {y : D} {b : Bool} : chn2 f c z y (.bl b) = if b then (evE c z).bind (kBin2 f y) else some (.bl false, z) := by cases b <;> rfl
def kUn2 (f : D → Option D) (z : Z) (x : D) : Option (D × Z) := (f x).map fun d => (d, z)
def kUn (f : D → Option D) (x : D × Z) : Option (D × Z) := (rd x.2 x.1).bind (kUn2 f x.2)
theorem A_un {o : UnaryOp} {f : D → Option D} {a : E} {z : Z} : evE (.un o f a) z = (evE a z).bind (kUn f) := rfl
def asB (z : Z) : D → Option (Bool × Z)
  | .bl b => some (b, z)
  | _ => none
theorem asB_bl {z : Z} {b : Bool} : asB z (.bl b) = some (b, z) := rfl
def andB (f : Ev) (z : Z) : D → Option (D × Z)
  | .bl true => f z
  | .bl false => some (.bl false, z)
  | _ => none
theorem and_if {f : Ev} {z : Z} {b : Bool} : andB f z (.bl b) = if b then f z else some (.bl false, z) := by cases b <;> rfl
def orB (f : Ev) (z : Z) : D → Option (D × Z)
  | .bl true => some (.bl true, z)
  | .bl false => f z
  | _ => none
theorem or_if {f : Ev} {z : Z} {b : Bool} : orB f z (.bl b) = if b then some (.bl true, z) else f z := by cases b <;> rfl
theorem A_boo {c : Bool} {es : Es} {z : Z} : evE (.boo c es) z = evB c es z := by unfold evE; rfl
theorem A_b1 {c : Bool} {e : E} {z : Z} : evB c (.cons e .nil) z = evE e z := by cases c <;> simp [evB]
def kAnd (es : Es) (x : D × Z) : Option (D × Z) := andB (evB true es) x.2 x.1
def kOr (es : Es) (x : D × Z) : Option (D × Z) := orB (evB false es) x.2 x.1
theorem A_and {e e2 : E} {es : Es} {z : Z} : evB true (.cons e (.cons e2 es)) z = (evE e z).bind (kAnd (.cons e2 es)) := rfl
theorem A_or {e e2 : E} {es : Es} {z : Z} : evB false (.cons e (.cons e2 es)) z = (evE e z).bind (kOr (.cons e2 es)) := rfl
def notB (z : Z) : D → Option (D × Z)
  | .bl b => some (.bl (!b), z)
  | _ => none
theorem notB_bl {z : Z} {b : Bool} : notB z (.bl b) = some (.bl (!b), z) := rfl
def kNot (x : D × Z) : Option (D × Z) := notB x.2 x.1
theorem A_not {a : E} {z : Z} : evE (.not a) z = (evE a z).bind kNot := rfl
def kIfe (a b : E) (x : Bool × Z) : Option (D × Z) := if x.1 then evE a x.2 else evE b x.2
theorem A_ife {t a b : E} {z : Z} : evE (.ife t a b) z = (evT t z).bind (kIfe a b) := rfl
def tupB (x : List D × Z) : Option (D × Z) := if x.1.all D.plain && okLen x.1 then some (.tup x.1, x.2) else none
def dspB (x : List D × Z) : Option (List D × Z) := if x.1.all D.plain && okLen x.1 then some x else none
theorem A_tup {es : Es} {z : Z} : evE (.tup es) z = (evEs es z).bind tupB := rfl
def kEsc (x : D × Z) : Option (D × Z) := escD x.1 x.2
theorem A_esc {a : E} {z : Z} : evE (.esc a) z = (evE a z).bind kEsc := rfl
def kCall (n : Nat) (g : Fn) (z : Z) (ds : List D) : Option (D × Z) := if ds.length = n then (g ds z.2).map fun r => (r.1, (z.1, r.2)) else none
def callB (n : Nat) (g : Fn) (x : List D × Z) : Option (D × Z) := (lendAll x.2 x.1).bind (kCall n g x.2)
theorem A_call {x : Str} {n : Nat} {g : Fn} {es : Es} {z : Z} : evE (.call x n g es) z = (evEs es z).bind (callB n g) := rfl
def kBc (f : List D → Option D) (z : Z) (ds : List D) : Option (D × Z) := (f ds).map fun d => (d, z)
def bcB (f : List D → Option D) (x : List D × Z) : Option (D × Z) := (rdAll x.2 x.1).bind (kBc f x.2)
theorem A_bc {x : Str} {f : List D → Option D} {es : Es} {z : Z} : evE (.bc x f es) z = (evEs es z).bind (bcB f) := rfl
theorem A_bt {x : Str} {f : List D → Option D} {es : Es} {z : Z} : evE (.bt x f es) z = (evEs es z).bind (bcB f) := rfl
def kBl (f : List D → Option (List D)) (z : Z) (ds : List D) : Option (List D × Z) := (f ds).map fun d => (d, z)
def blB (f : List D → Option (List D)) (x : List D × Z) : Option (List D × Z) := (rdAll x.2 x.1).bind (kBl f x.2)
def kMth4 (f : D → List D → Option D) (z : Z) (x : D) (ds : List D) : Option (D × Z) := (f x ds).map fun d => (d, z)
def kMth3 (f : D → List D → Option D) (y : List D × Z) (x : D) : Option (D × Z) := (rdAll y.2 y.1).bind (kMth4 f y.2 x)
def kMth2 (f : D → List D → Option D) (x : D) (y : List D × Z) : Option (D × Z) := (rd y.2 x).bind (kMth3 f y)
def kMth1 (T : String) (f : D → List D → Option D) (es : Es) (x : D × Z) (x0 : D) : Option (D × Z) := if tyD T x0 then (evEs es x.2).bind (kMth2 f x.1) else none
def kMth (T : String) (f : D → List D → Option D) (es : Es) (x : D × Z) : Option (D × Z) := (rd x.2 x.1).bind (kMth1 T f es x)
theorem A_mth {T : String} {m : Str} {f : D → List D → Option D} {a : E} {es : Es} {z : Z} : evE (.mth T m f a es) z = (evE a z).bind (kMth T f es) := rfl
def kOwn3 (i : Nat) (z : Z) (r : D × List D) : Option (D × Z) := if okLen r.2 then some (r.1, (z.1.set i (some (.own r.2)), z.2)) else none
def kOwn2 (i : Nat) (f : List D → List D → Option (D × List D)) (ds : List D) (z : Z) (as : List D) : Option (D × Z) := (f ds as).bind (kOwn3 i z)
def ownB2 (i : Nat) (f : List D → List D → Option (D × List D)) (y : List D × Z) : Option (Option DV) → Option (D × Z)
  | some (some (.own ds)) => (rdAll y.2 y.1).bind (kOwn2 i f ds y.2)
  | _ => none
def kOwn (i : Nat) (f : List D → List D → Option (D × List D)) (y : List D × Z) : Option (D × Z) := ownB2 i f y y.2.1[i]?
def ownB (i : Nat) (f : List D → List D → Option (D × List D)) (es : Es) (z : Z) : Option (Option DV) → Option (D × Z)
  | some (some (.own _)) => (evEs es z).bind (kOwn i f)
  | _ => none
theorem A_own {i : Nat} {m : Str} {f : List D → List D → Option (D × List D)} {es : Es} {z : Z} : evE (.own i m f es) z = ownB i f es z z.1[i]? := rfl
theorem own_own {i : Nat} {f : List D → List D → Option (D × List D)} {es : Es} {z : Z} {l : List D} : ownB i f es z (some (some (.own l))) = (evEs es z).bind (kOwn i f) := rfl
theorem own2_own {i : Nat} {f : List D → List D → Option (D × List D)} {y : List D × Z} {ds : List D} : ownB2 i f y (some (some (.own ds))) = (rdAll y.2 y.1).bind (kOwn2 i f ds y.2) := rfl
def appB2 (i : Nat) (z : Z) : Option (Option DV) → List D → Option (D × Z)
  | some (some (.own ds)), [d] => if d.plain && Nat.blt ds.length 16777216 then some (.non, (z.1.set i (some (.own (ds ++ [d]))), z.2)) else none
  | _, _ => none
def kApp (i : Nat) (y : List D × Z) : Option (D × Z) := appB2 i y.2 y.2.1[i]? y.1
def appB (i : Nat) (es : Es) (z : Z) : Option (Option DV) → Option (D × Z)
  | some (some (.own _)) => (evEs es z).bind (kApp i)
  | _ => none
theorem A_app {i : Nat} {es : Es} {z : Z} : evE (.app i es) z = appB i es z z.1[i]? := rfl
theorem app_own {i : Nat} {es : Es} {z : Z} {l : List D} : appB i es z (some (some (.own l))) = (evEs es z).bind (kApp i) := rfl
theorem app2_own {i : Nat} {z : Z} {ds : List D} {d : D} : appB2 i z (some (some (.own ds))) [d] = if d.plain && Nat.blt ds.length 16777216 then some (.non, (z.1.set i (some (.own (ds ++ [d]))), z.2)) else none := rfl
def kSl4 (f : D → Option Int → Option Int → Option D) (l : Option Int) (u : Option Int × Z) (x : D) : Option (D × Z) := (f x l u.1).map fun d => (d, u.2)
def kSl3 (f : D → Option Int → Option Int → Option D) (x : D) (l : Option Int) (u : Option Int × Z) : Option (D × Z) := (rd u.2 x).bind (kSl4 f l u)
def kSl2 (f : D → Option Int → Option Int → Option D) (hi : Oe) (x : D) (l : Option Int × Z) : Option (D × Z) := (evO hi l.2).bind (kSl3 f x l.1)
def kSl (f : D → Option Int → Option Int → Option D) (lo hi : Oe) (x : D × Z) : Option (D × Z) := (evO lo x.2).bind (kSl2 f hi x.1)
theorem A_slc {f : D → Option Int → Option Int → Option D} {a : E} {lo hi : Oe} {z : Z} : evE (.slc f a lo hi) z = (evE a z).bind (kSl f lo hi) := rfl
theorem A_ono {z : Z} : evO .no z = some (none, z) := rfl
def partB (z : Z) : D → Option (Option Int × Z)
  | .int i => some (some i, z)
  | _ => none
theorem part_int {z : Z} {i : Int} : partB z (.int i) = some (some i, z) := rfl
def kPart (x : D × Z) : Option (Option Int × Z) := partB x.2 x.1
theorem A_oyes {e : E} {z : Z} : evO (.yes e) z = (evE e z).bind kPart := rfl
theorem A_fr {f : FE} {z : Z} : evE (.fr f) z = (evF f z).map fun x => (.lst x.1, x.2) := rfl
theorem A_cel {f : FE} {z : Z} : evE (.cel f) z = (evF f z).map fun x => (.han x.2.2.length, (x.2.1, x.2.2 ++ [.lst x.1])) := rfl
theorem A_ext {sh : Scope → Expr → Option (List Expr)} {sem : List Ev → Ev} {es : Es} {z : Z} : evE (.ext sh sem es) z = sem (evL es) z := rfl
theorem A_lnil : evL .nil = [] := rfl
theorem A_lcons {e : E} {es : Es} : evL (.cons e es) = evE e :: evL es := rfl
/-! tests -/
def kAs (x : D × Z) : Option (Bool × Z) := asB x.2 x.1
def kTand (es : Es) (x : Bool × Z) : Option (Bool × Z) := if x.1 then evBT true es x.2 else some (false, x.2)
def kTor (es : Es) (x : Bool × Z) : Option (Bool × Z) := if x.1 then some (true, x.2) else evBT false es x.2
theorem T_boo {c : Bool} {es : Es} {z : Z} : evT (.boo c es) z = evBT c es z := by unfold evT; rfl
theorem T_b1 {c : Bool} {e : E} {z : Z} : evBT c (.cons e .nil) z = evT e z := by cases c <;> simp [evBT]
theorem T_and {e e2 : E} {es : Es} {z : Z} : evBT true (.cons e (.cons e2 es)) z = (evT e z).bind (kTand (.cons e2 es)) := rfl
theorem T_or {e e2 : E} {es : Es} {z : Z} : evBT false (.cons e (.cons e2 es)) z = (evT e z).bind (kTor (.cons e2 es)) := rfl
theorem T_not {a : E} {z : Z} : evT (.not a) z = (evT a z).map fun x => (!x.1, x.2) := rfl
theorem T_var {i : Nat} {z : Z} : evT (.var i) z = (evE (.var i) z).bind kAs := rfl
theorem T_cst {d : D} {z : Z} : evT (.cst d) z = asB z d := rfl
theorem T_glo {x : Str} {d : D} {z : Z} : evT (.glo x d) z = asB z d := rfl
theorem T_bin {o : Operator} {f : D → D → Option D} {a b : E} {z : Z} : evT (.bin o f a b) z = (evE (.bin o f a b) z).bind kAs := rfl
theorem T_cmp {o : CmpOp} {f : D → D → Option D} {a b : E} {z : Z} : evT (.cmp o f a b) z = (evE (.cmp o f a b) z).bind kAs := rfl
theorem T_idx {f : D → D → Option D} {a b : E} {z : Z} : evT (.idx f a b) z = (evE (.idx f a b) z).bind kAs := rfl
theorem T_chn {o o' : CmpOp} {f f' : D → D → Option D} {a b c : E} {z : Z} : evT (.chn o o' f f' a b c) z = (evE (.chn o o' f f' a b c) z).bind kAs := rfl
theorem T_call {x : Str} {n : Nat} {g : Fn} {es : Es} {z : Z} : evT (.call x n g es) z = (evE (.call x n g es) z).bind kAs := rfl
theorem T_bc {x : Str} {f : List D → Option D} {es : Es} {z : Z} : evT (.bc x f es) z = (evE (.bc x f es) z).bind kAs := rfl
theorem T_bt {x : Str} {f : List D → Option D} {es : Es} {z : Z} : evT (.bt x f es) z = (evE (.bt x f es) z).bind kAs := rfl
theorem T_mth {T : String} {m : Str} {f : D → List D → Option D} {a : E} {es : Es} {z : Z} : evT (.mth T m f a es) z = (evE (.mth T m f a es) z).bind kAs := rfl
theorem T_ext {sh : Scope → Expr → Option (List Expr)} {sem : List Ev → Ev} {es : Es} {z : Z} : evT (.ext sh sem es) z = (sem (evL es) z).bind kAs := rfl
/-! lists of expressions, fresh lists, what is walked -/
def kCons (es : Es) (x : D × Z) : Option (List D × Z) := (evEs es x.2).map fun y => (x.1 :: y.1, y.2)
def kStar2 (es : Es) (z : Z) (ds : List D) : Option (List D × Z) := (evEs es z).map fun y => (ds ++ y.1, y.2)
def kStar1 (es : Es) (z : Z) (d : D) : Option (List D × Z) := (itemsOf d).bind (kStar2 es z)
def kStar (es : Es) (x : D × Z) : Option (List D × Z) := (rd x.2 x.1).bind (kStar1 es x.2)
theorem A_nil {z : Z} : evEs .nil z = some ([], z) := rfl
theorem A_cons {e : E} {es : Es} {z : Z} : evEs (.cons e es) z = (evE e z).bind (kCons es) := rfl
theorem A_star {e : E} {es : Es} {z : Z} : evEs (.star e es) z = (evE e z).bind (kStar es) := rfl
theorem F_dsp {es : Es} {z : Z} : evF (.dsp es) z = (evEs es z).bind dspB := rfl
theorem F_bl {x : Str} {f : List D → Option (List D)} {es : Es} {z : Z} : evF (.bl x f es) z = (evEs es z).bind (blB f) := rfl
theorem F_blt {x : Str} {f : List D → Option (List D)} {es : Es} {z : Z} : evF (.blt x f es) z = (evEs es z).bind (blB f) := rfl
theorem F_ext {sh : Scope → Expr → Option (List Expr)} {sem : List Ev → EvA} {es : Es} {z : Z} : evF (.ext sh sem es) z = sem (evL es) z := rfl
theorem OT_no {z : Z} : evOT .no z = some (true, z) := rfl
theorem OT_yes {e : E} {z : Z} : evOT (.yes e) z = evT e z := rfl
def kEx (x : D × Z) : Option (List D × Z) := (itD x.1).map fun ds => (ds, x.2)
theorem I_ex {e : E} {z : Z} : evI (.ex e) z = (evE e z).bind kEx := rfl
def rg1B (z : Z) : D → Option (List D × Z)
  | .int j => if bigOk j then some (rngL 0 j.toNat, z) else none
  | _ => none
theorem rg1_int {z : Z} {j : Int} : rg1B z (.int j) = if bigOk j then some (rngL 0 j.toNat, z) else none := rfl
def kRg1 (x : D × Z) : Option (List D × Z) := rg1B x.2 x.1
theorem I_rg1 {e : E} {z : Z} : evI (.rg1 e) z = (evE e z).bind kRg1 := by
  show ((((evE e z).bind fun x => (fNil x.2).map fun y => (x.1 :: y.1, y.2))).bind _) = _
  cases evE e z with
  | none => rfl
  | some x => obtain ⟨d, z'⟩ := x; cases d <;> rfl
def rg2B (z : Z) : D → D → Option (List D × Z)
  | .int i, .int j => if bigOk i && bigOk j then some (rngL i (j - i).toNat, z) else none
  | _, _ => none
theorem rg2_int {z : Z} {i j : Int} : rg2B z (.int i) (.int j) = if bigOk i && bigOk j then some (rngL i (j - i).toNat, z) else none := rfl
def kRg22 (x : D) (y : D × Z) : Option (List D × Z) := rg2B y.2 x y.1
def kRg2 (b : E) (x : D × Z) : Option (List D × Z) := (evE b x.2).bind (kRg22 x.1)
theorem I_rg2 {a b : E} {z : Z} : evI (.rg2 a b) z = (evE a z).bind (kRg2 b) := by
  show ((((evE a z).bind fun x => (fCons (evE b) fNil x.2).map fun y => (x.1 :: y.1, y.2))).bind _) = _
  cases evE a z with
  | none => rfl
  | some x =>
    obtain ⟨d, z'⟩ := x
    show ((((evE b z').bind fun x => (fNil x.2).map fun y => (x.1 :: y.1, y.2)).map _).bind _) = (evE b z').bind _
    cases evE b z' with
    | none => rfl
    | some y => obtain ⟨d', z2⟩ := y; cases d <;> cases d' <;> rfl
def zipB (z : Z) : D → D → Option (List D × Z)
  | .lst ds, .lst es => some (zipT ds es, z)
  | .tup ds, .tup es => some (zipT ds es, z)
  | _, _ => none
theorem zip_l {z : Z} {a b : List D} : zipB z (.lst a) (.lst b) = some (zipT a b, z) := rfl
theorem zip_t {z : Z} {a b : List D} : zipB z (.tup a) (.tup b) = some (zipT a b, z) := rfl
def kZip2 (x : D) (y : D × Z) : Option (List D × Z) := zipB y.2 x y.1
def kZip (b : E) (x : D × Z) : Option (List D × Z) := (evE b x.2).bind (kZip2 x.1)
theorem I_zip {a b : E} {z : Z} : evI (.zip a b) z = (evE a z).bind (kZip b) := by
  show ((((evE a z).bind fun x => (fCons (evE b) fNil x.2).map fun y => (x.1 :: y.1, y.2))).bind _) = _
  cases evE a z with
  | none => rfl
  | some x =>
    obtain ⟨d, z'⟩ := x
    show ((((evE b z').bind fun x => (fNil x.2).map fun y => (x.1 :: y.1, y.2)).map _).bind _) = (evE b z').bind _
    cases evE b z' with
    | none => rfl
    | some y => obtain ⟨d', z2⟩ := y; cases d <;> cases d' <;> rfl
theorem I_ext {sh : Scope → Expr → Expr → Option (List Expr)} {sem : List Ev → EvA} {es : Es} {z : Z} : evI (.ext sh sem es) z = sem (evL es) z := rfl
/-! the extension nodes -/
def kIsi2 (f : D → Option Bool) (z : Z) (d : D) : Option (D × Z) := (f d).map fun b => (.bl b, z)
def kIsi (f : D → Option Bool) (x : D × Z) : Option (D × Z) := (rd x.2 x.1).bind (kIsi2 f x.2)
theorem X_isi {f : D → Option Bool} {fa : Ev} {z : Z} : semIsi f [fa] z = (fa z).bind (kIsi f) := rfl
def kFld (k : Nat) (x : D × Z) : Option (D × Z) := (fldOf x.2 k x.1).map fun d => (d, x.2)
theorem X_fld {k : Nat} {fa : Ev} {z : Z} : semFld k [fa] z = (fa z).bind (kFld k) := rfl
def gfB (k : Nat) (d : D) (z : Z) : D → Option Z
  | .han n => (match z.2[n]? with
    | some (.ins c fs) => if Nat.blt fs.length 900 then some (z.1, z.2.set n (.ins c (putD k d fs))) else none
    | _ => none)
  | _ => none
def kGf (k : Nat) (d : D) (x : D × Z) : Option Z := gfB k d x.2 x.1
theorem X_gf {k : Nat} {fa : Ev} {d : D} {z : Z} : semGf k [fa] d z = (fa z).bind (kGf k d) := rfl
theorem X_dsub {l : SS} {fa : Ev} {z : Z} : semDsub l [fa] z = fDsub l fa z := rfl
def rgB (z : Z) : D → Option (List D × Z)
  | .int n => (rgDs n).map fun l => (l, z)
  | _ => none
def kLrg (x : D × Z) : Option (List D × Z) := rgB x.2 x.1
theorem X_lrg {fa : Ev} {z : Z} : semLrg [fa] z = (fa z).bind kLrg := rfl
def enB (z : Z) : D → Option (List D × Z)
  | .lst ds => some (enumL ds, z)
  | .tup ds => some (enumL ds, z)
  | _ => none
def kEn (x : D × Z) : Option (List D × Z) := enB x.2 x.1
theorem X_en {fa : Ev} {z : Z} : semEnum [fa] z = (fa z).bind kEn := rfl
theorem en_lst {z : Z} {ds : List D} : enB z (.lst ds) = some (enumL ds, z) := rfl
theorem en_tup {z : Z} {ds : List D} : enB z (.tup ds) = some (enumL ds, z) := rfl
def mkB2 (n c : Nat) (ρ : Rho) : Option (D × Store) → Option (D × Z)
  | some (.non, S) => (endMk n c S).map fun r => (r.1, (ρ, r.2))
  | _ => none
def mkB (c n : Nat) (g : Fn) (x : List D × Z) : Option (D × Z) := (lendAll x.2 x.1).bind fun ds => if ds.length = n then mkB2 x.2.2.length c x.2.1 (g (.han x.2.2.length :: ds) (x.2.2 ++ [.ins c []])) else none
def kMk1 (c n : Nat) (g : Fn) (x : D × Z) : Option (D × Z) := mkB c n g ([x.1], x.2)
theorem X_mk1 {c n : Nat} {g : Fn} {fa : Ev} {z : Z} : semMk c n g [fa] z = (fa z).bind (kMk1 c n g) := by
  show (((fa z).bind fun x => (fNil x.2).map fun y => (x.1 :: y.1, y.2)).bind _) = _
  cases fa z <;> rfl
def kCk1 (n : Nat) (g : Fn) (m : Nat) (pm : List Nat) (z : Z) (ds : List D) : Option (D × Z) := if ds.length = m then (pick ds pm).bind (kCall n g z) else none
def callKB (n : Nat) (g : Fn) (m : Nat) (pm : List Nat) (x : List D × Z) : Option (D × Z) := (lendAll x.2 x.1).bind (kCk1 n g m pm x.2)
def kCk3 (n : Nat) (g : Fn) (m : Nat) (pm : List Nat) (ds : List D) (x : D × Z) : Option (D × Z) := callKB n g m pm (ds ++ [x.1], x.2)
def kCk2 (n : Nat) (g : Fn) (m : Nat) (pm : List Nat) (fs : List Ev) (ds : List D) (x : D × Z) : Option (D × Z) := match fs with
  | [] => callKB n g m pm (ds ++ [x.1], x.2)
  | f :: r => (f x.2).bind (kCk2 n g m pm r (ds ++ [x.1]))
theorem X_callK1 {n : Nat} {g : Fn} {m : Nat} {pm : List Nat} {fa : Ev} {z : Z} : semCallK n g m pm [fa] z = (fa z).bind (kCk2 n g m pm [] []) := by
  show (((fa z).bind fun x => (fNil x.2).map fun y => (x.1 :: y.1, y.2)).bind _) = _
  cases fa z <;> rfl
theorem X_callK2 {n : Nat} {g : Fn} {m : Nat} {pm : List Nat} {fa fb : Ev} {z : Z} : semCallK n g m pm [fa, fb] z = (fa z).bind (kCk2 n g m pm [fb] []) := by
  show (((fa z).bind fun x => (fCons fb fNil x.2).map fun y => (x.1 :: y.1, y.2)).bind _) = _
  cases fa z with
  | none => rfl
  | some x =>
    show ((((fb x.2).bind fun x => (fNil x.2).map fun y => (x.1 :: y.1, y.2)).map _).bind _) = (fb x.2).bind _
    cases fb x.2 <;> rfl
theorem X_callK3 {n : Nat} {g : Fn} {m : Nat} {pm : List Nat} {fa fb fc : Ev} {z : Z} : semCallK n g m pm [fa, fb, fc] z = (fa z).bind (kCk2 n g m pm [fb, fc] []) := by
  show (((fa z).bind fun x => (fCons fb (fCons fc fNil) x.2).map fun y => (x.1 :: y.1, y.2)).bind _) = _
  cases fa z with
  | none => rfl
  | some x =>
    show ((((fb x.2).bind fun x => (fCons fc fNil x.2).map fun y => (x.1 :: y.1, y.2)).map _).bind _) = (fb x.2).bind _
    cases fb x.2 with
    | none => rfl
    | some y =>
      show (((((fc y.2).bind fun x => (fNil x.2).map fun y => (x.1 :: y.1, y.2)).map _).map _).bind _) = (fc y.2).bind _
      cases fc y.2 <;> rfl
/-! statements -/
def seqB (ss : Ss) (x : Fl × Z) : Option (Fl × Z) := match x.1 with
  | .nx => evSs ss x.2
  | fl => some (fl, x.2)
theorem seq_nx {ss : Ss} {z : Z} : seqB ss (.nx, z) = evSs ss z := rfl
theorem seq_rt {ss : Ss} {d : D} {z : Z} : seqB ss (.rt d, z) = some (.rt d, z) := rfl
theorem seq_bk {ss : Ss} {z : Z} : seqB ss (.bk, z) = some (.bk, z) := rfl
theorem seq_ct {ss : Ss} {z : Z} : seqB ss (.ct, z) = some (.ct, z) := rfl
theorem S_nil {z : Z} : evSs .nil z = some (.nx, z) := rfl
theorem S_cons {s : S} {ss : Ss} {z : Z} : evSs (.cons s ss) z = (evS s z).bind (seqB ss) := rfl
def asgB (i : Nat) (x : D × Z) : Option (Fl × Z) := if x.1.plain then some (.nx, (x.2.1.set i (some (.imm x.1)), x.2.2)) else none
theorem S_set {i : Nat} {e : E} {z : Z} : evS (.set i e) z = (evE e z).bind (asgB i) := rfl
theorem S_setC {i : Nat} {f : FE} {z : Z} : evS (.setC i f) z = (evF f z).map fun x => (.nx, (x.2.1.set i (some (.imm (.lst x.1))), x.2.2)) := rfl
theorem S_own {i : Nat} {f : FE} {z : Z} : evS (.own i f) z = (evF f z).map fun x => (.nx, (x.2.1.set i (some (.own x.1)), x.2.2)) := rfl
theorem S_ownC {i : Nat} {f : FE} {z : Z} : evS (.ownC i f) z = (evF f z).map fun x => (.nx, (x.2.1.set i (some (.own x.1)), x.2.2)) := rfl
def kAsg (g : Gt) (x : D × Z) : Option (Fl × Z) := if x.1.plain then (evG g x.1 x.2).map fun z' => (.nx, z') else none
theorem S_asg {g : Gt} {e : E} {z : Z} : evS (.asg g e) z = (evE e z).bind (kAsg g) := rfl
def kPar (i j : Nat) (b : PEl) (x : DV × Z) : Option (Fl × Z) := (evP b x.2).map fun y => (.nx, ((y.2.1.set i (some x.1)).set j (some y.1), y.2.2))
theorem S_par {i j : Nat} {a b : PEl} {z : Z} : evS (.par i j a b) z = (evP a z).bind (kPar i j b) := rfl
def kPv (x : D × Z) : Option (DV × Z) := if x.1.plain then some (.imm x.1, x.2) else none
theorem P_v {e : E} {z : Z} : evP (.v e) z = (evE e z).bind kPv := rfl
theorem P_o {f : FE} {z : Z} : evP (.o f) z = (evF f z).map fun x => (.own x.1, x.2) := rfl
theorem S_exp {e : E} {z : Z} : evS (.exp e) z = (evE e z).map fun x => (.nx, x.2) := rfl
def retB (x : D × Z) : Option (Fl × Z) := if x.1.plain then some (.rt x.1, x.2) else none
theorem S_ret {e : E} {z : Z} : evS (.ret e) z = (evE e z).bind retB := rfl
def kSif (a b : Ss) (x : Bool × Z) : Option (Fl × Z) := if x.1 then evSs a x.2 else evSs b x.2
theorem S_ife {t : E} {a b : Ss} {z : Z} : evS (.ife t a b) z = (evT t z).bind (kSif a b) := rfl
def kFor (g : Gt) (b : Ss) (x : List D × Z) : Option (Fl × Z) := forL (evG g) (evSs b) x.1 x.2
theorem S_fors {it : IE} {g : Gt} {b : Ss} {z : Z} : evS (.fors it g b) z = (evI it z).bind (kFor g b) := rfl
theorem S_whil {n : Nat} {t : E} {b : Ss} {z : Z} : evS (.whil n t b) z = whileL (evT t) (evSs b) n z := rfl
theorem S_pass {z : Z} : evS .pass z = some (.nx, z) := rfl
theorem S_brk {z : Z} : evS .brk z = some (.bk, z) := rfl
theorem S_cont {z : Z} : evS .cont z = some (.ct, z) := rfl
theorem G_nm {i : Nat} {d : D} {z : Z} : evG (.nm i) d z = some (z.1.set i (some (.imm d)), z.2) := rfl
def kIx2 (x d : D) (y : D × Z) : Option Z := setD x y.1 d y.2
def kIx (b : E) (d : D) (x : D × Z) : Option Z := (evE b x.2).bind (kIx2 x.1 d)
theorem G_ix {a b : E} {d : D} {z : Z} : evG (.ix a b) d z = (evE a z).bind (kIx b d) := rfl
def kTp (gs : Gts) (z : Z) (ds : List D) : Option Z := if ds.length = gs.len then evGs gs ds z else none
theorem G_tp {gs : Gts} {d : D} {z : Z} : evG (.tp gs) d z = (itemsOf d).bind (kTp gs z) := rfl
theorem G_nil {z : Z} : evGs .nil [] z = some z := rfl
theorem G_cons {g : Gt} {gs : Gts} {d : D} {ds : List D} {z : Z} : evGs (.cons g gs) (d :: ds) z = (evG g d z).bind (evGs gs ds) := rfl
theorem G_ext {sh : Scope → Expr → Option (List Expr)} {sem : List Ev → EvG} {es : Es} {d : D} {z : Z} : evG (.ext sh sem es) d z = sem (evL es) d z := rfl
def endF : Option (Fl × Z) → Option (D × Store)
  | some (.rt d, z) => some (d, z.2)
  | some (.nx, z) => some (.non, z.2)
  | _ => none
theorem fn_ap {n : Nat} {b : Ss} {ds : List D} {S : Store} : fnD n b ds S = endF (evSs b (rho0 n ds, S)) := rfl
theorem end_rt {d : D} {z : Z} : endF (some (.rt d, z)) = some (d, z.2) := rfl
theorem end_nx {z : Z} : endF (some (.nx, z)) = some (.non, z.2) := rfl
theorem okL0 : okLen [] = true := rfl
theorem okL1 {a : D} : okLen [a] = true := rfl
theorem okL2 {a b : D} : okLen [a, b] = true := rfl
theorem okL3 {a b c : D} : okLen [a, b, c] = true := rfl
theorem okL4 {a b c d : D} : okLen [a, b, c, d] = true := rfl
theorem plain_str {s : List Nat} : (D.str s).plain = true := rfl
theorem plain_int {s : Int} : (D.int s).plain = true := rfl
theorem plain_bl {s : Bool} : (D.bl s).plain = true := rfl
theorem plain_non : (D.non).plain = true := rfl
theorem plain_lst {s : List D} : (D.lst s).plain = true := rfl
theorem plain_tup {s : List D} : (D.tup s).plain = true := rfl
theorem plain_han {s : Nat} : (D.han s).plain = true := rfl
theorem plain_ins {c : Nat} {fs : List (Nat × D)} : (D.ins c fs).plain = true := rfl
theorem rd_str {z : Z} {s : List Nat} : rd z (.str s) = some (.str s) := rfl
theorem rd_int {z : Z} {s : Int} : rd z (.int s) = some (.int s) := rfl
theorem rd_bl {z : Z} {s : Bool} : rd z (.bl s) = some (.bl s) := rfl
theorem rd_non {z : Z} : rd z .non = some .non := rfl
theorem rd_lst {z : Z} {s : List D} : rd z (.lst s) = some (.lst s) := rfl
theorem rd_tup {z : Z} {s : List D} : rd z (.tup s) = some (.tup s) := rfl
theorem rd_ins {z : Z} {c : Nat} {fs : List (Nat × D)} : rd z (.ins c fs) = some (.ins c fs) := rfl
theorem rd_bor {z : Z} {i : Nat} : rd z (.bor i) = rdB z.1[i]? := rfl
theorem rd_han {z : Z} {i : Nat} : rd z (.han i) = rdH i z.2[i]? := rfl
theorem rdB_own {ds : List D} : rdB (some (some (.own ds))) = some (.lst ds) := rfl
theorem rdB_brw {ds : List D} : rdB (some (some (.brw ds))) = some (.lst ds) := rfl
theorem rdH_lst {n : Nat} {ds : List D} : rdH n (some (.lst ds)) = some (.lst ds) := rfl
theorem rdH_ins {n c : Nat} {fs : List (Nat × D)} : rdH n (some (.ins c fs)) = some (.han n) := rfl
theorem ln_str {z : Z} {s : List Nat} : lendD z (.str s) = some (.str s) := rfl
theorem ln_int {z : Z} {s : Int} : lendD z (.int s) = some (.int s) := rfl
theorem ln_bl {z : Z} {s : Bool} : lendD z (.bl s) = some (.bl s) := rfl
theorem ln_non {z : Z} : lendD z .non = some .non := rfl
theorem ln_lst {z : Z} {s : List D} : lendD z (.lst s) = some (.lst s) := rfl
theorem ln_tup {z : Z} {s : List D} : lendD z (.tup s) = some (.tup s) := rfl
theorem ln_ins {z : Z} {c : Nat} {fs : List (Nat × D)} : lendD z (.ins c fs) = some (.ins c fs) := rfl
theorem ln_han {z : Z} {i : Nat} : lendD z (.han i) = some (.han i) := rfl
theorem ln_0 {z : Z} : lendAll z [] = some [] := rfl
theorem ln_s {z : Z} {d : D} {ds : List D} : lendAll z (d :: ds) = (lendD z d).bind fun x => (lendAll z ds).map fun r => x :: r := rfl
theorem rdA_0 {z : Z} : rdAll z [] = some [] := rfl
theorem rdA_s {z : Z} {d : D} {ds : List D} : rdAll z (d :: ds) = (rd z d).bind fun x => (rdAll z ds).map fun r => x :: r := rfl
def esB (i : Nat) (z : Z) : Option (Option DV) → Option (D × Z)
  | some (some (.own ds)) => some (.lst ds, (z.1.set i (some (.imm (.lst ds))), z.2))
  | _ => none
theorem es_bor {z : Z} {i : Nat} : escD (.bor i) z = esB i z z.1[i]? := rfl
theorem es_own {z : Z} {i : Nat} {ds : List D} : esB i z (some (some (.own ds))) = some (.lst ds, (z.1.set i (some (.imm (.lst ds))), z.2)) := rfl
theorem es_lst {z : Z} {s : List D} : escD (.lst s) z = some (.lst s, z) := rfl
theorem es_tup {z : Z} {s : List D} : escD (.tup s) z = some (.tup s, z) := rfl
theorem es_str {z : Z} {s : List Nat} : escD (.str s) z = some (.str s, z) := rfl
theorem es_non {z : Z} : escD .non z = some (.non, z) := rfl
theorem it_lst {s : List D} : itD (.lst s) = some s := rfl
theorem it_tup {s : List D} : itD (.tup s) = some s := rfl
theorem it_str {s : List Nat} : itD (.str s) = some (s.map fun c => .str [c]) := rfl
theorem its_lst {s : List D} : itemsOf (.lst s) = some s := rfl
theorem its_tup {s : List D} : itemsOf (.tup s) = some s := rfl
theorem f1_1 {g : D → Option D} {x : D} : f1 g [x] = g x := rfl
theorem f2_2 {g : D → D → Option D} {x y : D} : f2 g [x, y] = g x y := rfl
theorem g1_1 {g : D → Option (List D)} {x : D} : g1 g [x] = g x := rfl
theorem m1_1 {f : D → D → Option D} {x y : D} : m1 f x [y] = f x y := rfl
theorem ty_ss {s : List Nat} : tyD "str" (.str s) = true := rfl
theorem ty_ll {s : List D} : tyD "list" (.lst s) = true := rfl
theorem fld_ins {z : Z} {k c : Nat} {fs : List (Nat × D)} : fldOf z k (.ins c fs) = fs.lookup k := rfl
theorem isB_int_non  : isB "int" .non = some false := rfl
theorem isB_int_bl {b : Bool} : isB "int" (.bl b) = some true := rfl
theorem isB_int_int {b : Int} : isB "int" (.int b) = some true := rfl
theorem isB_int_str {b : List Nat} : isB "int" (.str b) = some false := rfl
theorem isB_int_lst {b : List D} : isB "int" (.lst b) = some false := rfl
theorem isB_int_tup {b : List D} : isB "int" (.tup b) = some false := rfl
theorem isB_bool_non  : isB "bool" .non = some false := rfl
theorem isB_bool_bl {b : Bool} : isB "bool" (.bl b) = some true := rfl
theorem isB_bool_int {b : Int} : isB "bool" (.int b) = some false := rfl
theorem isB_bool_str {b : List Nat} : isB "bool" (.str b) = some false := rfl
theorem isB_bool_lst {b : List D} : isB "bool" (.lst b) = some false := rfl
theorem isB_bool_tup {b : List D} : isB "bool" (.tup b) = some false := rfl
theorem isB_str_non  : isB "str" .non = some false := rfl
theorem isB_str_bl {b : Bool} : isB "str" (.bl b) = some false := rfl
theorem isB_str_int {b : Int} : isB "str" (.int b) = some false := rfl
theorem isB_str_str {b : List Nat} : isB "str" (.str b) = some true := rfl
theorem isB_str_lst {b : List D} : isB "str" (.lst b) = some false := rfl
theorem isB_str_tup {b : List D} : isB "str" (.tup b) = some false := rfl
theorem isB_tuple_non  : isB "tuple" .non = some false := rfl
theorem isB_tuple_bl {b : Bool} : isB "tuple" (.bl b) = some false := rfl
theorem isB_tuple_int {b : Int} : isB "tuple" (.int b) = some false := rfl
theorem isB_tuple_str {b : List Nat} : isB "tuple" (.str b) = some false := rfl
theorem isB_tuple_lst {b : List D} : isB "tuple" (.lst b) = some false := rfl
theorem isB_tuple_tup {b : List D} : isB "tuple" (.tup b) = some true := rfl
theorem isB_list_non  : isB "list" .non = some false := rfl
theorem isB_list_bl {b : Bool} : isB "list" (.bl b) = some false := rfl
theorem isB_list_int {b : Int} : isB "list" (.int b) = some false := rfl
theorem isB_list_str {b : List Nat} : isB "list" (.str b) = some false := rfl
theorem isB_list_lst {b : List D} : isB "list" (.lst b) = some true := rfl
theorem isB_list_tup {b : List D} : isB "list" (.tup b) = some false := rfl
theorem dv_non  : toDV .non = .imm .non := rfl
theorem dv_bl {b : Bool} : toDV (.bl b) = .imm (.bl b) := rfl
theorem dv_int {b : Int} : toDV (.int b) = .imm (.int b) := rfl
theorem dv_str {b : List Nat} : toDV (.str b) = .imm (.str b) := rfl
theorem dv_lst {b : List D} : toDV (.lst b) = .imm (.lst b) := rfl
theorem dv_tup {b : List D} : toDV (.tup b) = .imm (.tup b) := rfl
theorem dv_han {n : Nat} : toDV (.han n) = .imm (.han n) := rfl
theorem dv_ins {c : Nat} {fs : List (Nat × D)} : toDV (.ins c fs) = .imm (.ins c fs) := rfl
theorem dv_brw {ds : List D} : toDV (.brw ds) = .brw ds := rfl
theorem eq_ii {a b : Int} : eqD (.int a) (.int b) = some (.bl (decide (a = b))) := rfl
theorem eq_ss {a b : List Nat} : eqD (.str a) (.str b) = some (.bl (decide (a = b))) := rfl
theorem ne_ii {a b : Int} : neD (.int a) (.int b) = some (.bl (!decide (a = b))) := rfl
theorem ne_ss {a b : List Nat} : neD (.str a) (.str b) = some (.bl (!decide (a = b))) := rfl
theorem isC_ins {c : Nat} {fs : List (Nat × D)} : isC c (.ins c fs) = some true := by simp [isC]
theorem pu_get {p r : Store} {c : MO} : (p ++ c :: r)[p.length]? = some c := by simp
theorem pu_set {p r : Store} {c c' : MO} : (p ++ c :: r).set p.length c' = p ++ c' :: r := by simp
def stB (n : Nat) (i : Int) (d : D) (z : Z) : Option MO → Option Z
  | some (.lst ds) => (ixOf ds.length i).map fun k => (z.1, z.2.set n (.lst (ds.set k d)))
  | _ => none
theorem st_han {n : Nat} {i : Int} {d : D} {z : Z} : setD (.han n) (.int i) d z = stB n i d z z.2[n]? := rfl
theorem st_lst {n : Nat} {i : Int} {d : D} {z : Z} {ds : List D} : stB n i d z (some (.lst ds)) = (ixOf ds.length i).map fun k => (z.1, z.2.set n (.lst (ds.set k d))) := rfl
def stO (j : Nat) (i : Int) (d : D) (z : Z) : Option (Option DV) → Option Z
  | some (some (.own ds)) => (ixOf ds.length i).map fun k => (z.1.set j (some (.own (ds.set k d))), z.2)
  | _ => none
theorem st_bor {j : Nat} {i : Int} {d : D} {z : Z} : setD (.bor j) (.int i) d z = stO j i d z z.1[j]? := rfl
theorem st_own {j : Nat} {i : Int} {d : D} {z : Z} {ds : List D} : stO j i d z (some (some (.own ds))) = (ixOf ds.length i).map fun k => (z.1.set j (some (.own (ds.set k d))), z.2) := rfl
theorem add_ii {a b : Int} : addD (.int a) (.int b) = some (.int (a + b)) := rfl
theorem sub_ii {a b : Int} : subD (.int a) (.int b) = some (.int (a - b)) := rfl
theorem lt_ii {a b : Int} : ltD (.int a) (.int b) = some (.bl (decide (a < b))) := rfl
theorem le_ii {a b : Int} : leD (.int a) (.int b) = some (.bl (decide (a ≤ b))) := rfl
theorem gt_ii {a b : Int} : gtD (.int a) (.int b) = some (.bl (decide (b < a))) := rfl
theorem ge_ii {a b : Int} : geD (.int a) (.int b) = some (.bl (decide (b ≤ a))) := rfl
theorem len_l {a : List D} : lenD (.lst a) = some (.int a.length) := rfl
theorem len_t {a : List D} : lenD (.tup a) = some (.int a.length) := rfl
theorem len_s {a : List Nat} : lenD (.str a) = some (.int a.length) := rfl
theorem tuple_l {a : List D} : tupleD (.lst a) = some (.tup a) := rfl
theorem tuple_t {a : List D} : tupleD (.tup a) = some (.tup a) := rfl
theorem list_l {a : List D} : listD (.lst a) = some a := rfl
theorem list_t {a : List D} : listD (.tup a) = some a := rfl
theorem is_non {d : D} : isD2 d .non = some (.bl (isNonD d)) := by cases d <;> rfl
theorem isnot_non {d : D} : isnotD d .non = some (.bl (!isNonD d)) := by cases d <;> rfl
end DE
set_option Elab.async false
set_option linter.all false
set_option maxRecDepth 100000
set_option maxHeartbeats 1000000
/-! written by mkpb.py: the words of PA as one -/
namespace DE
open PySem
theorem EV0 : ((((type_of% @A_var) ∧ (type_of% @br_imm)) ∧ ((type_of% @br_own) ∧ ((type_of% @br_brw) ∧ (type_of% @A_cst)))) ∧ (((type_of% @A_glo) ∧ (type_of% @A_bin)) ∧ ((type_of% @A_cmp) ∧ ((type_of% @A_idx) ∧ (type_of% @A_chn))))) ∧ ((((type_of% @chn_if) ∧ (type_of% @A_un)) ∧ ((type_of% @asB_bl) ∧ ((type_of% @and_if) ∧ (type_of% @or_if)))) ∧ (((type_of% @A_boo) ∧ (type_of% @A_b1)) ∧ ((type_of% @A_and) ∧ ((type_of% @A_or) ∧ (type_of% @notB_bl))))) := ⟨⟨⟨⟨@A_var, @br_imm⟩, ⟨@br_own, ⟨@br_brw, @A_cst⟩⟩⟩, ⟨⟨@A_glo, @A_bin⟩, ⟨@A_cmp, ⟨@A_idx, @A_chn⟩⟩⟩⟩, ⟨⟨⟨@chn_if, @A_un⟩, ⟨@asB_bl, ⟨@and_if, @or_if⟩⟩⟩, ⟨⟨@A_boo, @A_b1⟩, ⟨@A_and, ⟨@A_or, @notB_bl⟩⟩⟩⟩⟩
theorem EV1 : ((((type_of% @A_not) ∧ (type_of% @A_ife)) ∧ ((type_of% @A_tup) ∧ ((type_of% @A_esc) ∧ (type_of% @A_call)))) ∧ (((type_of% @A_bc) ∧ (type_of% @A_bt)) ∧ ((type_of% @A_mth) ∧ ((type_of% @A_own) ∧ (type_of% @own_own))))) ∧ ((((type_of% @own2_own) ∧ (type_of% @A_app)) ∧ ((type_of% @app_own) ∧ ((type_of% @app2_own) ∧ (type_of% @A_slc)))) ∧ (((type_of% @A_ono) ∧ (type_of% @part_int)) ∧ ((type_of% @A_oyes) ∧ ((type_of% @A_fr) ∧ (type_of% @A_cel))))) := ⟨⟨⟨⟨@A_not, @A_ife⟩, ⟨@A_tup, ⟨@A_esc, @A_call⟩⟩⟩, ⟨⟨@A_bc, @A_bt⟩, ⟨@A_mth, ⟨@A_own, @own_own⟩⟩⟩⟩, ⟨⟨⟨@own2_own, @A_app⟩, ⟨@app_own, ⟨@app2_own, @A_slc⟩⟩⟩, ⟨⟨@A_ono, @part_int⟩, ⟨@A_oyes, ⟨@A_fr, @A_cel⟩⟩⟩⟩⟩
theorem EV2 : ((((type_of% @A_ext) ∧ (type_of% @A_lnil)) ∧ ((type_of% @A_lcons) ∧ ((type_of% @T_boo) ∧ (type_of% @T_b1)))) ∧ (((type_of% @T_and) ∧ (type_of% @T_or)) ∧ ((type_of% @T_not) ∧ ((type_of% @T_var) ∧ (type_of% @T_cst))))) ∧ ((((type_of% @T_glo) ∧ (type_of% @T_bin)) ∧ ((type_of% @T_cmp) ∧ ((type_of% @T_idx) ∧ (type_of% @T_chn)))) ∧ (((type_of% @T_call) ∧ (type_of% @T_bc)) ∧ ((type_of% @T_bt) ∧ ((type_of% @T_mth) ∧ (type_of% @T_ext))))) := ⟨⟨⟨⟨@A_ext, @A_lnil⟩, ⟨@A_lcons, ⟨@T_boo, @T_b1⟩⟩⟩, ⟨⟨@T_and, @T_or⟩, ⟨@T_not, ⟨@T_var, @T_cst⟩⟩⟩⟩, ⟨⟨⟨@T_glo, @T_bin⟩, ⟨@T_cmp, ⟨@T_idx, @T_chn⟩⟩⟩, ⟨⟨@T_call, @T_bc⟩, ⟨@T_bt, ⟨@T_mth, @T_ext⟩⟩⟩⟩⟩
theorem EV3 : ((((type_of% @A_nil) ∧ (type_of% @A_cons)) ∧ ((type_of% @A_star) ∧ ((type_of% @F_dsp) ∧ (type_of% @F_bl)))) ∧ (((type_of% @F_blt) ∧ (type_of% @F_ext)) ∧ ((type_of% @OT_no) ∧ ((type_of% @OT_yes) ∧ (type_of% @I_ex))))) ∧ ((((type_of% @rg1_int) ∧ (type_of% @I_rg1)) ∧ ((type_of% @rg2_int) ∧ ((type_of% @I_rg2) ∧ (type_of% @zip_l)))) ∧ (((type_of% @zip_t) ∧ (type_of% @I_zip)) ∧ ((type_of% @I_ext) ∧ ((type_of% @X_isi) ∧ (type_of% @X_fld))))) := ⟨⟨⟨⟨@A_nil, @A_cons⟩, ⟨@A_star, ⟨@F_dsp, @F_bl⟩⟩⟩, ⟨⟨@F_blt, @F_ext⟩, ⟨@OT_no, ⟨@OT_yes, @I_ex⟩⟩⟩⟩, ⟨⟨⟨@rg1_int, @I_rg1⟩, ⟨@rg2_int, ⟨@I_rg2, @zip_l⟩⟩⟩, ⟨⟨@zip_t, @I_zip⟩, ⟨@I_ext, ⟨@X_isi, @X_fld⟩⟩⟩⟩⟩
theorem EV4 : ((((type_of% @X_gf) ∧ (type_of% @X_dsub)) ∧ ((type_of% @X_lrg) ∧ ((type_of% @X_en) ∧ (type_of% @en_lst)))) ∧ (((type_of% @en_tup) ∧ (type_of% @X_mk1)) ∧ ((type_of% @X_callK1) ∧ ((type_of% @X_callK2) ∧ (type_of% @X_callK3))))) ∧ ((((type_of% @seq_nx) ∧ (type_of% @seq_rt)) ∧ ((type_of% @seq_bk) ∧ ((type_of% @seq_ct) ∧ (type_of% @S_nil)))) ∧ (((type_of% @S_cons) ∧ (type_of% @S_set)) ∧ ((type_of% @S_setC) ∧ ((type_of% @S_own) ∧ (type_of% @S_ownC))))) := ⟨⟨⟨⟨@X_gf, @X_dsub⟩, ⟨@X_lrg, ⟨@X_en, @en_lst⟩⟩⟩, ⟨⟨@en_tup, @X_mk1⟩, ⟨@X_callK1, ⟨@X_callK2, @X_callK3⟩⟩⟩⟩, ⟨⟨⟨@seq_nx, @seq_rt⟩, ⟨@seq_bk, ⟨@seq_ct, @S_nil⟩⟩⟩, ⟨⟨@S_cons, @S_set⟩, ⟨@S_setC, ⟨@S_own, @S_ownC⟩⟩⟩⟩⟩
theorem EV5 : ((((type_of% @S_asg) ∧ (type_of% @S_par)) ∧ ((type_of% @P_v) ∧ ((type_of% @P_o) ∧ (type_of% @S_exp)))) ∧ (((type_of% @S_ret) ∧ (type_of% @S_ife)) ∧ ((type_of% @S_fors) ∧ ((type_of% @S_whil) ∧ (type_of% @S_pass))))) ∧ ((((type_of% @S_brk) ∧ (type_of% @S_cont)) ∧ ((type_of% @G_nm) ∧ ((type_of% @G_ix) ∧ (type_of% @G_tp)))) ∧ (((type_of% @G_nil) ∧ (type_of% @G_cons)) ∧ ((type_of% @G_ext) ∧ ((type_of% @fn_ap) ∧ (type_of% @end_rt))))) := ⟨⟨⟨⟨@S_asg, @S_par⟩, ⟨@P_v, ⟨@P_o, @S_exp⟩⟩⟩, ⟨⟨@S_ret, @S_ife⟩, ⟨@S_fors, ⟨@S_whil, @S_pass⟩⟩⟩⟩, ⟨⟨⟨@S_brk, @S_cont⟩, ⟨@G_nm, ⟨@G_ix, @G_tp⟩⟩⟩, ⟨⟨@G_nil, @G_cons⟩, ⟨@G_ext, ⟨@fn_ap, @end_rt⟩⟩⟩⟩⟩
theorem EV6 : ((((type_of% @end_nx) ∧ (type_of% @okL0)) ∧ ((type_of% @okL1) ∧ ((type_of% @okL2) ∧ (type_of% @okL3)))) ∧ (((type_of% @okL4) ∧ (type_of% @plain_str)) ∧ ((type_of% @plain_int) ∧ ((type_of% @plain_bl) ∧ (type_of% @plain_non))))) ∧ ((((type_of% @plain_lst) ∧ (type_of% @plain_tup)) ∧ ((type_of% @plain_han) ∧ ((type_of% @plain_ins) ∧ (type_of% @rd_str)))) ∧ (((type_of% @rd_int) ∧ (type_of% @rd_bl)) ∧ ((type_of% @rd_non) ∧ ((type_of% @rd_lst) ∧ (type_of% @rd_tup))))) := ⟨⟨⟨⟨@end_nx, @okL0⟩, ⟨@okL1, ⟨@okL2, @okL3⟩⟩⟩, ⟨⟨@okL4, @plain_str⟩, ⟨@plain_int, ⟨@plain_bl, @plain_non⟩⟩⟩⟩, ⟨⟨⟨@plain_lst, @plain_tup⟩, ⟨@plain_han, ⟨@plain_ins, @rd_str⟩⟩⟩, ⟨⟨@rd_int, @rd_bl⟩, ⟨@rd_non, ⟨@rd_lst, @rd_tup⟩⟩⟩⟩⟩
theorem EV7 : ((((type_of% @rd_ins) ∧ (type_of% @rd_bor)) ∧ ((type_of% @rd_han) ∧ ((type_of% @rdB_own) ∧ (type_of% @rdB_brw)))) ∧ (((type_of% @rdH_lst) ∧ (type_of% @rdH_ins)) ∧ ((type_of% @ln_str) ∧ ((type_of% @ln_int) ∧ (type_of% @ln_bl))))) ∧ ((((type_of% @ln_non) ∧ (type_of% @ln_lst)) ∧ ((type_of% @ln_tup) ∧ ((type_of% @ln_ins) ∧ (type_of% @ln_han)))) ∧ (((type_of% @ln_0) ∧ (type_of% @ln_s)) ∧ ((type_of% @rdA_0) ∧ ((type_of% @rdA_s) ∧ (type_of% @es_bor))))) := ⟨⟨⟨⟨@rd_ins, @rd_bor⟩, ⟨@rd_han, ⟨@rdB_own, @rdB_brw⟩⟩⟩, ⟨⟨@rdH_lst, @rdH_ins⟩, ⟨@ln_str, ⟨@ln_int, @ln_bl⟩⟩⟩⟩, ⟨⟨⟨@ln_non, @ln_lst⟩, ⟨@ln_tup, ⟨@ln_ins, @ln_han⟩⟩⟩, ⟨⟨@ln_0, @ln_s⟩, ⟨@rdA_0, ⟨@rdA_s, @es_bor⟩⟩⟩⟩⟩
theorem EV8 : ((((type_of% @es_own) ∧ (type_of% @es_lst)) ∧ ((type_of% @es_tup) ∧ ((type_of% @es_str) ∧ (type_of% @es_non)))) ∧ (((type_of% @it_lst) ∧ (type_of% @it_tup)) ∧ ((type_of% @it_str) ∧ ((type_of% @its_lst) ∧ (type_of% @its_tup))))) ∧ ((((type_of% @f1_1) ∧ (type_of% @f2_2)) ∧ ((type_of% @g1_1) ∧ ((type_of% @m1_1) ∧ (type_of% @ty_ss)))) ∧ (((type_of% @ty_ll) ∧ (type_of% @fld_ins)) ∧ ((type_of% @isB_int_non) ∧ ((type_of% @isB_int_bl) ∧ (type_of% @isB_int_int))))) := ⟨⟨⟨⟨@es_own, @es_lst⟩, ⟨@es_tup, ⟨@es_str, @es_non⟩⟩⟩, ⟨⟨@it_lst, @it_tup⟩, ⟨@it_str, ⟨@its_lst, @its_tup⟩⟩⟩⟩, ⟨⟨⟨@f1_1, @f2_2⟩, ⟨@g1_1, ⟨@m1_1, @ty_ss⟩⟩⟩, ⟨⟨@ty_ll, @fld_ins⟩, ⟨@isB_int_non, ⟨@isB_int_bl, @isB_int_int⟩⟩⟩⟩⟩
theorem EV9 : ((((type_of% @isB_int_str) ∧ (type_of% @isB_int_lst)) ∧ ((type_of% @isB_int_tup) ∧ ((type_of% @isB_bool_non) ∧ (type_of% @isB_bool_bl)))) ∧ (((type_of% @isB_bool_int) ∧ (type_of% @isB_bool_str)) ∧ ((type_of% @isB_bool_lst) ∧ ((type_of% @isB_bool_tup) ∧ (type_of% @isB_str_non))))) ∧ ((((type_of% @isB_str_bl) ∧ (type_of% @isB_str_int)) ∧ ((type_of% @isB_str_str) ∧ ((type_of% @isB_str_lst) ∧ (type_of% @isB_str_tup)))) ∧ (((type_of% @isB_tuple_non) ∧ (type_of% @isB_tuple_bl)) ∧ ((type_of% @isB_tuple_int) ∧ ((type_of% @isB_tuple_str) ∧ (type_of% @isB_tuple_lst))))) := ⟨⟨⟨⟨@isB_int_str, @isB_int_lst⟩, ⟨@isB_int_tup, ⟨@isB_bool_non, @isB_bool_bl⟩⟩⟩, ⟨⟨@isB_bool_int, @isB_bool_str⟩, ⟨@isB_bool_lst, ⟨@isB_bool_tup, @isB_str_non⟩⟩⟩⟩, ⟨⟨⟨@isB_str_bl, @isB_str_int⟩, ⟨@isB_str_str, ⟨@isB_str_lst, @isB_str_tup⟩⟩⟩, ⟨⟨@isB_tuple_non, @isB_tuple_bl⟩, ⟨@isB_tuple_int, ⟨@isB_tuple_str, @isB_tuple_lst⟩⟩⟩⟩⟩
theorem EV10 : ((((type_of% @isB_tuple_tup) ∧ (type_of% @isB_list_non)) ∧ ((type_of% @isB_list_bl) ∧ ((type_of% @isB_list_int) ∧ (type_of% @isB_list_str)))) ∧ (((type_of% @isB_list_lst) ∧ (type_of% @isB_list_tup)) ∧ ((type_of% @dv_non) ∧ ((type_of% @dv_bl) ∧ (type_of% @dv_int))))) ∧ ((((type_of% @dv_str) ∧ (type_of% @dv_lst)) ∧ ((type_of% @dv_tup) ∧ ((type_of% @dv_han) ∧ (type_of% @dv_ins)))) ∧ (((type_of% @dv_brw) ∧ (type_of% @eq_ii)) ∧ ((type_of% @eq_ss) ∧ ((type_of% @ne_ii) ∧ (type_of% @ne_ss))))) := ⟨⟨⟨⟨@isB_tuple_tup, @isB_list_non⟩, ⟨@isB_list_bl, ⟨@isB_list_int, @isB_list_str⟩⟩⟩, ⟨⟨@isB_list_lst, @isB_list_tup⟩, ⟨@dv_non, ⟨@dv_bl, @dv_int⟩⟩⟩⟩, ⟨⟨⟨@dv_str, @dv_lst⟩, ⟨@dv_tup, ⟨@dv_han, @dv_ins⟩⟩⟩, ⟨⟨@dv_brw, @eq_ii⟩, ⟨@eq_ss, ⟨@ne_ii, @ne_ss⟩⟩⟩⟩⟩
theorem EV11 : ((((type_of% @isC_ins) ∧ (type_of% @pu_get)) ∧ ((type_of% @pu_set) ∧ ((type_of% @st_han) ∧ (type_of% @st_lst)))) ∧ (((type_of% @st_bor) ∧ (type_of% @st_own)) ∧ ((type_of% @add_ii) ∧ ((type_of% @sub_ii) ∧ (type_of% @lt_ii))))) ∧ ((((type_of% @le_ii) ∧ (type_of% @gt_ii)) ∧ ((type_of% @ge_ii) ∧ ((type_of% @len_l) ∧ (type_of% @len_t)))) ∧ (((type_of% @len_s) ∧ (type_of% @tuple_l)) ∧ ((type_of% @tuple_t) ∧ ((type_of% @list_l) ∧ (type_of% @list_t))))) := ⟨⟨⟨⟨@isC_ins, @pu_get⟩, ⟨@pu_set, ⟨@st_han, @st_lst⟩⟩⟩, ⟨⟨@st_bor, @st_own⟩, ⟨@add_ii, ⟨@sub_ii, @lt_ii⟩⟩⟩⟩, ⟨⟨⟨@le_ii, @gt_ii⟩, ⟨@ge_ii, ⟨@len_l, @len_t⟩⟩⟩, ⟨⟨@len_s, @tuple_l⟩, ⟨@tuple_t, ⟨@list_l, @list_t⟩⟩⟩⟩⟩
theorem EV12 : ((((type_of% @is_non) ∧ (type_of% @isnot_non)) ∧ ((type_of% @kRd2.eq_1) ∧ ((type_of% @kRd.eq_1) ∧ (type_of% @kBin2.eq_1)))) ∧ (((type_of% @kBin.eq_1) ∧ (type_of% @kChn4.eq_1)) ∧ ((type_of% @kChn3.eq_1) ∧ ((type_of% @kChn2.eq_1) ∧ (type_of% @kChn.eq_1))))) ∧ ((((type_of% @kUn2.eq_1) ∧ (type_of% @kUn.eq_1)) ∧ ((type_of% @kAnd.eq_1) ∧ ((type_of% @kOr.eq_1) ∧ (type_of% @kNot.eq_1)))) ∧ (((type_of% @kIfe.eq_1) ∧ (type_of% @kEsc.eq_1)) ∧ ((type_of% @kCall.eq_1) ∧ ((type_of% @kBc.eq_1) ∧ (type_of% @kBl.eq_1))))) := ⟨⟨⟨⟨@is_non, @isnot_non⟩, ⟨@kRd2.eq_1, ⟨@kRd.eq_1, @kBin2.eq_1⟩⟩⟩, ⟨⟨@kBin.eq_1, @kChn4.eq_1⟩, ⟨@kChn3.eq_1, ⟨@kChn2.eq_1, @kChn.eq_1⟩⟩⟩⟩, ⟨⟨⟨@kUn2.eq_1, @kUn.eq_1⟩, ⟨@kAnd.eq_1, ⟨@kOr.eq_1, @kNot.eq_1⟩⟩⟩, ⟨⟨@kIfe.eq_1, @kEsc.eq_1⟩, ⟨@kCall.eq_1, ⟨@kBc.eq_1, @kBl.eq_1⟩⟩⟩⟩⟩
theorem EV13 : ((((type_of% @kMth4.eq_1) ∧ (type_of% @kMth3.eq_1)) ∧ ((type_of% @kMth2.eq_1) ∧ ((type_of% @kMth1.eq_1) ∧ (type_of% @kMth.eq_1)))) ∧ (((type_of% @kOwn3.eq_1) ∧ (type_of% @kOwn2.eq_1)) ∧ ((type_of% @kOwn.eq_1) ∧ ((type_of% @kApp.eq_1) ∧ (type_of% @kSl4.eq_1))))) ∧ ((((type_of% @kSl3.eq_1) ∧ (type_of% @kSl2.eq_1)) ∧ ((type_of% @kSl.eq_1) ∧ ((type_of% @kPart.eq_1) ∧ (type_of% @kAs.eq_1)))) ∧ (((type_of% @kTand.eq_1) ∧ (type_of% @kTor.eq_1)) ∧ ((type_of% @kCons.eq_1) ∧ ((type_of% @kStar2.eq_1) ∧ (type_of% @kStar1.eq_1))))) := ⟨⟨⟨⟨@kMth4.eq_1, @kMth3.eq_1⟩, ⟨@kMth2.eq_1, ⟨@kMth1.eq_1, @kMth.eq_1⟩⟩⟩, ⟨⟨@kOwn3.eq_1, @kOwn2.eq_1⟩, ⟨@kOwn.eq_1, ⟨@kApp.eq_1, @kSl4.eq_1⟩⟩⟩⟩, ⟨⟨⟨@kSl3.eq_1, @kSl2.eq_1⟩, ⟨@kSl.eq_1, ⟨@kPart.eq_1, @kAs.eq_1⟩⟩⟩, ⟨⟨@kTand.eq_1, @kTor.eq_1⟩, ⟨@kCons.eq_1, ⟨@kStar2.eq_1, @kStar1.eq_1⟩⟩⟩⟩⟩
theorem EV14 : ((((type_of% @kStar.eq_1) ∧ (type_of% @kEx.eq_1)) ∧ ((type_of% @kRg1.eq_1) ∧ ((type_of% @kRg22.eq_1) ∧ (type_of% @kRg2.eq_1)))) ∧ (((type_of% @kZip2.eq_1) ∧ (type_of% @kZip.eq_1)) ∧ ((type_of% @kIsi2.eq_1) ∧ ((type_of% @kIsi.eq_1) ∧ (type_of% @kFld.eq_1))))) ∧ ((((type_of% @kGf.eq_1) ∧ (type_of% @kLrg.eq_1)) ∧ ((type_of% @kEn.eq_1) ∧ ((type_of% @kMk1.eq_1) ∧ (type_of% @kCk1.eq_1)))) ∧ (((type_of% @kCk3.eq_1) ∧ (type_of% @kAsg.eq_1)) ∧ ((type_of% @kPar.eq_1) ∧ ((type_of% @kPv.eq_1) ∧ (type_of% @kSif.eq_1))))) := ⟨⟨⟨⟨@kStar.eq_1, @kEx.eq_1⟩, ⟨@kRg1.eq_1, ⟨@kRg22.eq_1, @kRg2.eq_1⟩⟩⟩, ⟨⟨@kZip2.eq_1, @kZip.eq_1⟩, ⟨@kIsi2.eq_1, ⟨@kIsi.eq_1, @kFld.eq_1⟩⟩⟩⟩, ⟨⟨⟨@kGf.eq_1, @kLrg.eq_1⟩, ⟨@kEn.eq_1, ⟨@kMk1.eq_1, @kCk1.eq_1⟩⟩⟩, ⟨⟨@kCk3.eq_1, @kAsg.eq_1⟩, ⟨@kPar.eq_1, ⟨@kPv.eq_1, @kSif.eq_1⟩⟩⟩⟩⟩
theorem EV15 : ((((type_of% @kFor.eq_1) ∧ (type_of% @kIx2.eq_1)) ∧ ((type_of% @kIx.eq_1) ∧ ((type_of% @kTp.eq_1) ∧ (type_of% @rho0.eq_1)))) ∧ (((type_of% @bin2.eq_1) ∧ (type_of% @tupB.eq_1)) ∧ ((type_of% @dspB.eq_1) ∧ ((type_of% @callB.eq_1) ∧ (type_of% @bcB.eq_1))))) ∧ ((((type_of% @blB.eq_1) ∧ (type_of% @callKB.eq_1)) ∧ ((type_of% @asgB.eq_1) ∧ ((type_of% @retB.eq_1) ∧ (type_of% @gfB.eq_1)))) ∧ (((type_of% @rgB.eq_1) ∧ (type_of% @kCk2.eq_1)) ∧ ((type_of% @kCk2.eq_2) ∧ ((type_of% @Gts.len.eq_1) ∧ (type_of% @Gts.len.eq_2))))) := ⟨⟨⟨⟨@kFor.eq_1, @kIx2.eq_1⟩, ⟨@kIx.eq_1, ⟨@kTp.eq_1, @rho0.eq_1⟩⟩⟩, ⟨⟨@bin2.eq_1, @tupB.eq_1⟩, ⟨@dspB.eq_1, ⟨@callB.eq_1, @bcB.eq_1⟩⟩⟩⟩, ⟨⟨⟨@blB.eq_1, @callKB.eq_1⟩, ⟨@asgB.eq_1, ⟨@retB.eq_1, @gfB.eq_1⟩⟩⟩, ⟨⟨@rgB.eq_1, @kCk2.eq_1⟩, ⟨@kCk2.eq_2, ⟨@Gts.len.eq_1, @Gts.len.eq_2⟩⟩⟩⟩⟩
theorem EV16 : (type_of% @pick.eq_1) ∧ (type_of% @pick.eq_2) := ⟨@pick.eq_1, @pick.eq_2⟩
end DE
set_option Elab.async false
set_option linter.all false
set_option maxRecDepth 100000
set_option maxHeartbeats 1000000
/-! P0: comprehensions and loops at a known state -/
namespace DE
open PySem
theorem wipe1 (ρ : Rho) (i : Nat) : wipeR ρ [i] = ρ.set i none := rfl
theorem wipe_in (ρ : Rho) (i : Nat) (v : Option DV) : (ρ.set i none).set i v = ρ.set i v := by rw [List.set_set]
/-- a comprehension over one name that changes nothing -/
theorem comp_nm {it : IE} {t : Oe} {e : E} {x : Str} {i : Nat} {ρ : Rho} {S : Store} {α : Type} (xs : List α) (enc : α → D) (p : α → Bool) (h : α → D)
    (hit : evI it (ρ, S) = some (xs.map enc, (ρ, S))) (hr : backR ρ (ρ.set i none) [i] = ρ) (hl : xs.length ≤ 16777216)
    (hb : ∀ a ∈ xs, evOT t (ρ.set i (some (.imm (enc a))), S) = some (p a, (ρ.set i (some (.imm (enc a))), S)) ∧ (p a = true → evE e (ρ.set i (some (.imm (enc a))), S) = some (h a, (ρ.set i (some (.imm (enc a))), S)) ∧ (h a).plain = true)) :
    evF (.comp it (.nm i) t e [(x, i)]) (ρ, S) = some ((xs.filter p).map h, (ρ, S)) := by
  have key : ∀ (ys : List α) (acc : List D), (∀ a ∈ ys, a ∈ xs) → acc.length + ys.length ≤ 16777216 → compL (.nm i) (evOT t) (evE e) [i] (ys.map enc) (ρ.set i none, S) acc = some (acc ++ (ys.filter p).map h, (ρ.set i none, S)) := by
    intro ys
    induction ys with
    | nil => intro acc _ _; simp [compL]
    | cons a ys ih =>
      intro acc hm hl
      obtain ⟨h1, h2⟩ := hb a (hm a (List.mem_cons_self ..))
      have e1 : ctD (.nm i) (enc a) (ρ.set i none, S) = some (ρ.set i (some (.imm (enc a))), S) := by
        show some ((ρ.set i none).set i (some (.imm (enc a))), S) = _
        rw [wipe_in]
      rw [List.map_cons]
      unfold compL
      rw [e1, Option.bind_some, h1, Option.bind_some]
      have hw : wipeR (ρ.set i (some (.imm (enc a)))) [i] = ρ.set i none := by rw [wipe1, List.set_set]
      cases hp : p a with
      | false =>
        simp only [Bool.false_eq_true, if_false]
        rw [hw, ih acc (fun b hb => hm b (List.mem_cons_of_mem _ hb)) (by rw [List.length_cons] at hl; omega)]
        simp [hp]
      | true =>
        obtain ⟨h3, h4⟩ := h2 hp
        have hc : Nat.blt acc.length 16777216 = true := Nat.ble_eq_true_of_le (by rw [List.length_cons] at hl; omega)
        simp only [if_true]
        rw [h3, Option.bind_some, h4, hc]
        simp only [Bool.and_self, if_true]
        rw [hw, ih _ (fun b hb => hm b (List.mem_cons_of_mem _ hb)) (by rw [List.length_append]; rw [List.length_cons] at hl; simp; omega)]
        simp [hp]
  show fComp (evI it) (.nm i) (evOT t) (evE e) [i] (ρ, S) = _
  unfold fComp
  rw [hit, Option.bind_some, wipe1, key xs [] (fun _ h => h) (by simpa using hl)]
  simp [hr]
/-- .. without a test -/
theorem comp_map {it : IE} {e : E} {x : Str} {i : Nat} {ρ : Rho} {S : Store} {α : Type} (xs : List α) (enc : α → D) (h : α → D)
    (hit : evI it (ρ, S) = some (xs.map enc, (ρ, S))) (hr : backR ρ (ρ.set i none) [i] = ρ) (hl : xs.length ≤ 16777216)
    (hb : ∀ a ∈ xs, evE e (ρ.set i (some (.imm (enc a))), S) = some (h a, (ρ.set i (some (.imm (enc a))), S)) ∧ (h a).plain = true) :
    evF (.comp it (.nm i) .no e [(x, i)]) (ρ, S) = some (xs.map h, (ρ, S)) := by
  have := comp_nm (it := it) (t := .no) (e := e) (x := x) (i := i) (ρ := ρ) (S := S) xs enc (fun _ => true) h hit hr hl fun a ha => ⟨rfl, fun _ => hb a ha⟩
  rwa [List.filter_eq_self.mpr (fun _ _ => rfl)] at this
/-- a comprehension over two names that changes nothing -/
theorem comp_two {it : IE} {t : Oe} {e : E} {x y : Str} {i j : Nat} {ρ : Rho} {S : Store} {α : Type} (xs : List α) (enc enc' : α → D) (p : α → Bool) (h : α → D)
    (hit : evI it (ρ, S) = some (xs.map (fun a => .tup [enc a, enc' a]), (ρ, S))) (hr : backR ρ ((ρ.set j none).set i none) [i, j] = ρ) (hij : i ≠ j) (hl : xs.length ≤ 16777216)
    (hb : ∀ a ∈ xs, evOT t ((ρ.set i (some (.imm (enc a)))).set j (some (.imm (enc' a))), S) = some (p a, ((ρ.set i (some (.imm (enc a)))).set j (some (.imm (enc' a))), S)) ∧ (p a = true → evE e ((ρ.set i (some (.imm (enc a)))).set j (some (.imm (enc' a))), S) = some (h a, ((ρ.set i (some (.imm (enc a)))).set j (some (.imm (enc' a))), S)) ∧ (h a).plain = true)) :
    evF (.comp it (.tp [i, j]) t e [(x, i), (y, j)]) (ρ, S) = some ((xs.filter p).map h, (ρ, S)) := by
  have w2 : ∀ v w, ((((ρ.set j none).set i none).set i v).set j w) = ((ρ.set i v).set j w) := fun v w => by
    rw [List.set_set, List.set_comm _ _ hij.symm, List.set_set]
  have key : ∀ (ys : List α) (acc : List D), (∀ a ∈ ys, a ∈ xs) → acc.length + ys.length ≤ 16777216 → compL (.tp [i, j]) (evOT t) (evE e) [i, j] (ys.map (fun a => .tup [enc a, enc' a])) ((ρ.set j none).set i none, S) acc = some (acc ++ (ys.filter p).map h, ((ρ.set j none).set i none, S)) := by
    intro ys
    induction ys with
    | nil => intro acc _ _; simp [compL]
    | cons a ys ih =>
      intro acc hm hl
      obtain ⟨h1, h2⟩ := hb a (hm a (List.mem_cons_self ..))
      have e1 : ctD (.tp [i, j]) (.tup [enc a, enc' a]) ((ρ.set j none).set i none, S) = some ((ρ.set i (some (.imm (enc a)))).set j (some (.imm (enc' a))), S) := by
        simp only [ctD, itemsOf, Option.bind_some, List.length_cons, List.length_nil, if_true, setsR, w2]
      rw [List.map_cons]
      unfold compL
      rw [e1, Option.bind_some, h1, Option.bind_some]
      have hw : wipeR ((ρ.set i (some (.imm (enc a)))).set j (some (.imm (enc' a)))) [i, j] = (ρ.set j none).set i none := by
        show (((ρ.set i (some (.imm (enc a)))).set j (some (.imm (enc' a)))).set j none).set i none = _
        rw [List.set_set, List.set_comm _ _ hij, List.set_set]
      cases hp : p a with
      | false =>
        simp only [Bool.false_eq_true, if_false]
        rw [hw, ih acc (fun b hb => hm b (List.mem_cons_of_mem _ hb)) (by rw [List.length_cons] at hl; omega)]
        simp [hp]
      | true =>
        obtain ⟨h3, h4⟩ := h2 hp
        have hc : Nat.blt acc.length 16777216 = true := Nat.ble_eq_true_of_le (by rw [List.length_cons] at hl; omega)
        simp only [if_true]
        rw [h3, Option.bind_some, h4, hc]
        simp only [Bool.and_self, if_true]
        rw [hw, ih _ (fun b hb => hm b (List.mem_cons_of_mem _ hb)) (by rw [List.length_append]; rw [List.length_cons] at hl; simp; omega)]
        simp [hp]
  show fComp (evI it) (.tp [i, j]) (evOT t) (evE e) [i, j] (ρ, S) = _
  unfold fComp
  rw [hit, Option.bind_some]
  show ((compL (.tp [i, j]) (evOT t) (evE e) [i, j] _ ((ρ.set j none).set i none, S) []).map _) = _
  rw [key xs [] (fun _ h => h) (by simpa using hl)]
  simp [hr]
/-- a comprehension over one name, without a test, that may change the store; ρ' : other slots may change too -/
theorem comp_inv {it : IE} {e : E} {x : Str} {i : Nat} {α : Type} (xs : List α) (enc : α → D) (I : Nat → Rho → Store → Prop) (P : α → D → Prop) {ρ : Rho} {S : Store}
    (hit : evI it (ρ, S) = some (xs.map enc, (ρ, S))) (hI : I 0 (ρ.set i none) S) (hl : xs.length ≤ 16777216)
    (hb : ∀ n a r s, xs[n]? = some a → I n r s → ∃ y r' s', evE e (r.set i (some (.imm (enc a))), s) = some (y, (r', s')) ∧ y.plain = true ∧ P a y ∧ I (n + 1) (r'.set i none) s') :
    ∃ ys r' S', evF (.comp it (.nm i) .no e [(x, i)]) (ρ, S) = some (ys, (backR ρ r' [i], S')) ∧ I xs.length r' S' ∧ ys.length = xs.length ∧ ∀ q ∈ xs.zip ys, P q.1 q.2 := by
  have key : ∀ (ys : List α) (n : Nat) (acc : List D) (r : Rho) (s : Store), (∀ k a, ys[k]? = some a → xs[n + k]? = some a) → I n r s → acc.length + ys.length ≤ 16777216 → ∃ zs r' s', compL (.nm i) (evOT .no) (evE e) [i] (ys.map enc) (r, s) acc = some (acc ++ zs, (r', s')) ∧ I (n + ys.length) r' s' ∧ zs.length = ys.length ∧ ∀ q ∈ ys.zip zs, P q.1 q.2 := by
    intro ys
    induction ys with
    | nil => intro n acc r s _ hi _; exact ⟨[], r, s, by simp [compL], hi, rfl, fun q h => by simp at h⟩
    | cons a ys ih =>
      intro n acc r s hm hi hl
      obtain ⟨y, r', s', h1, h2, h3, h4⟩ := hb n a r s (by simpa using hm 0 a rfl) hi
      have hc : Nat.blt acc.length 16777216 = true := Nat.ble_eq_true_of_le (by rw [List.length_cons] at hl; omega)
      obtain ⟨zs, r2, s2, g1, g2, g3, g4⟩ := ih (n + 1) (acc ++ [y]) (r'.set i none) s' (fun k b hk => by have := hm (k + 1) b (by simpa using hk); rwa [show n + (k + 1) = n + 1 + k by omega] at this) h4 (by rw [List.length_append]; rw [List.length_cons] at hl; simp; omega)
      refine ⟨y :: zs, r2, s2, ?_, by rw [List.length_cons, show n + (ys.length + 1) = n + 1 + ys.length by omega]; exact g2, by simp [g3], fun q hq => ?_⟩
      · rw [List.map_cons]
        unfold compL
        have e1 : ctD (.nm i) (enc a) (r, s) = some (r.set i (some (.imm (enc a))), s) := rfl
        have e2 : evOT .no (r.set i (some (.imm (enc a))), s) = some (true, (r.set i (some (.imm (enc a))), s)) := rfl
        rw [e1, Option.bind_some, e2, Option.bind_some]
        simp only [if_true]
        rw [h1, Option.bind_some, h2, hc]
        simp only [Bool.and_self, if_true, wipe1]
        rw [g1]
        simp
      · rw [List.zip_cons_cons] at hq
        rcases List.mem_cons.mp hq with rfl | hq
        · exact h3
        · exact g4 q hq
  obtain ⟨zs, r', s', g1, g2, g3, g4⟩ := key xs 0 [] (ρ.set i none) S (fun k a h => by simpa using h) hI (by simpa using hl)
  refine ⟨zs, r', s', ?_, by simpa using g2, g3, g4⟩
  show fComp (evI it) (.nm i) (evOT .no) (evE e) [i] (ρ, S) = _
  unfold fComp
  rw [hit, Option.bind_some, wipe1, g1]
  simp
/-! ### small facts -/
def lnB : Option (Option DV) → Option D
  | some (some (.own ds)) => some (.brw ds)
  | some (some (.brw ds)) => some (.brw ds)
  | _ => none
theorem dd_lnbor {z : Z} {i : Nat} : lendD z (.bor i) = lnB z.1[i]? := rfl
theorem dd_lnown {ds : List D} : lnB (some (some (.own ds))) = some (.brw ds) := rfl
theorem dd_lnbrw {ds : List D} : lnB (some (some (.brw ds))) = some (.brw ds) := rfl
theorem okN_of {n : Nat} (h : n ≤ 16777216) : okN n = true := Nat.ble_eq_true_of_le h
theorem okLen_of {ds : List D} (h : ds.length ≤ 16777216) : okLen ds = true := Nat.ble_eq_true_of_le h
theorem bigOk_of {i : Int} (h1 : -1000000000 ≤ i) (h2 : i ≤ 1000000000) : bigOk i = true := Nat.ble_eq_true_of_le (by omega)
theorem rng_map (m : Nat) : rngL 0 m = (List.range m).map fun i => D.int (i : Nat) := by
  unfold rngL
  exact List.map_congr_left fun i _ => by rw [Int.zero_add]
theorem rng1_nat {z : Z} {f : Ev} {m : Nat} (h : f z = some (.int (m : Nat), z)) (hm : m ≤ 1000000000) : fRng1 (fCons f fNil) z = some ((List.range m).map (fun i => D.int (i : Nat)), z) := by
  have : bigOk ((m : Nat) : Int) = true := bigOk_of (by omega) (by omega)
  simp [fRng1, fCons, fNil, h, this, rng_map]
theorem allD_map (bs : List Bool) : allD (.lst (bs.map D.bl)) = some (.bl (bs.all id)) := by simp [allD, bls_map]
theorem anyD_map (bs : List Bool) : anyD (.lst (bs.map D.bl)) = some (.bl (bs.any id)) := by simp [anyD, bls_map]
theorem allD_f {α : Type} (xs : List α) (p : α → Bool) : allD (.lst (xs.map fun a => D.bl (p a))) = some (.bl (xs.all p)) := by
  have := allD_map (xs.map p)
  rw [List.map_map] at this
  rw [show (fun a => D.bl (p a)) = D.bl ∘ p from rfl, this, List.all_map]
  rfl
theorem anyD_f {α : Type} (xs : List α) (p : α → Bool) : anyD (.lst (xs.map fun a => D.bl (p a))) = some (.bl (xs.any p)) := by
  have := anyD_map (xs.map p)
  rw [List.map_map] at this
  rw [show (fun a => D.bl (p a)) = D.bl ∘ p from rfl, this, List.any_map]
  rfl
end DE
set_option Elab.async false
set_option linter.all false
set_option maxRecDepth 100000
set_option maxHeartbeats 1000000
/-! P1: rows, the purse -/
namespace KK
open PySem DE
theorem cut_take {α : Type} (xs : List α) (i : Nat) : cutL xs none (some (i : Int)) = xs.take i := by
  unfold cutL
  have h0 : HT.sIx xs.length 0 none = 0 := rfl
  have h1 : HT.sIx xs.length xs.length (some (i : Int)) = min i xs.length := by unfold HT.sIx; simp; omega
  rw [h0, h1, List.drop_zero, Nat.sub_zero]
  by_cases h : i ≤ xs.length
  · rw [Nat.min_eq_left h]
  · rw [Nat.min_eq_right (by omega), List.take_of_length_le (Nat.le_refl _), List.take_of_length_le (by omega)]
theorem cut_drop {α : Type} (xs : List α) (i : Nat) : cutL xs (some (i : Int)) none = xs.drop i := by
  unfold cutL
  have h0 : HT.sIx xs.length xs.length none = xs.length := rfl
  have h1 : HT.sIx xs.length 0 (some (i : Int)) = min i xs.length := by unfold HT.sIx; simp; omega
  rw [h0, h1]
  by_cases h : i ≤ xs.length
  · rw [Nat.min_eq_left h, List.take_of_length_le (by simp)]
  · rw [Nat.min_eq_right (by omega), List.drop_of_length_le (Nat.le_refl _), List.drop_of_length_le (by omega)]
    simp
/-! ### texts, rows -/
def sgn (c : Nat) : Bool := decide (c ∈ [43, 45, 46])
theorem is_row_c0_eq (s : List Nat) (n : Int) (S : Store) (hs : s.length ≤ 16777216) : evF is_row_c0 ([some (.imm (.str s)), some (.imm (.int n)), none], S) = some (s.map (fun c => D.bl (sgn c)), ([some (.imm (.str s)), some (.imm (.int n)), none], S)) := by
  unfold is_row_c0
  refine comp_map s (fun c => D.str [c]) (fun c => D.bl (sgn c)) rfl rfl hs fun c _ => ⟨rfl, rfl⟩
theorem is_row_eq (s : List Nat) (n : Int) (S : Store) (hs : s.length ≤ 16777216) : m_is_row [.str s, .int n] S = some (.bl (decide ((s.length : Int) = n) && s.all sgn), S) := by
  have hc := is_row_c0_eq s n S hs
  unfold m_is_row ir_is_row
  by_cases h : (s.length : Int) = n
  · simp [EV0, EV1, EV2, EV3, EV4, EV5, EV6, EV7, EV8, EV9, EV10, EV11, EV12, EV13, EV14, EV15, EV16, Option.bind_some, Option.bind_none, Option.map_some, Option.map_none, List.getElem?_cons_zero, List.getElem?_cons_succ, List.set_cons_zero, List.set_cons_succ, List.map_cons, List.map_nil, List.length_cons, List.length_nil, List.cons_append, List.nil_append, Bool.and_true, Bool.true_and, Bool.and_false, Bool.false_and, List.all_cons, List.all_nil, List.replicate, Bool.not_true, Bool.not_false, Bool.false_eq_true, if_true, if_false, ↓reduceIte, decide_true, decide_false, Nat.zero_add, Nat.reduceAdd, Nat.reduceSub, dd_lnbor, dd_lnown, dd_lnbrw, lenD, eqD, shp, dpt, eqB, hc, allD_f, h]
  · simp [EV0, EV1, EV2, EV3, EV4, EV5, EV6, EV7, EV8, EV9, EV10, EV11, EV12, EV13, EV14, EV15, EV16, Option.bind_some, Option.bind_none, Option.map_some, Option.map_none, List.getElem?_cons_zero, List.getElem?_cons_succ, List.set_cons_zero, List.set_cons_succ, List.map_cons, List.map_nil, List.length_cons, List.length_nil, List.cons_append, List.nil_append, Bool.and_true, Bool.true_and, Bool.and_false, Bool.false_and, List.all_cons, List.all_nil, List.replicate, Bool.not_true, Bool.not_false, Bool.false_eq_true, if_true, if_false, ↓reduceIte, decide_true, decide_false, Nat.zero_add, Nat.reduceAdd, Nat.reduceSub, dd_lnbor, dd_lnown, dd_lnbrw, lenD, eqD, shp, dpt, eqB, hc, allD_f, h]
/-! ### the purse: the first cell of the store -/
def Purse (c : MO) : Prop := ∃ a b : Int, c = .lst [.int a, .int b] ∧ 0 ≤ a ∧ 0 ≤ b ∧ b < 2147483647
theorem ix20 {x y : D} : ixD (.lst [x, y]) (.int 0) = some x := rfl
theorem ix21 {x y : D} : ixD (.lst [x, y]) (.int 1) = some y := rfl
theorem ixo20 : ixOf 2 0 = some 0 := rfl
theorem ixo21 : ixOf 2 1 = some 1 := rfl
theorem mul_lit {a b : Int} (h : -18446744073709551616 < b ∧ b < 18446744073709551616) : mulD (.int a) (.int b) = some (.int (a * b)) := by
  simp only [mulD, h, and_self, or_true, if_true]
theorem mod_pos {a b : Int} (h : 0 < b) : modD (.int a) (.int b) = some (.int (a % b)) := by
  simp only [modD, h, if_true]
theorem fdiv_pos {a b : Int} (h : 0 < b ∧ b < 1073741824) : fdivD (.int a) (.int b) = some (.int (a / b)) := by
  simp only [fdivD, h, and_self, if_true]
theorem int_i {a : Int} : intD (.int a) = some (.int a) := rfl
theorem draw_eq {c : MO} (hS : Purse c) (p r : Store) (k : Int) (hk : 0 < k) (hk2 : k < 1000) : ∃ d c', m_law_draw [.han p.length, .int k] (p ++ c :: r) = some (.int d, p ++ c' :: r) ∧ 0 ≤ d ∧ d < k ∧ Purse c' := by
  obtain ⟨a, b, rfl, ha, hb, hb2⟩ := hS
  unfold m_law_draw ir_law_draw
  have hk3 : k < 1073741824 := by omega
  by_cases h : 0 < a
  · refine ⟨a % k, .lst [.int (a / k), .int b], ?_, Int.emod_nonneg _ (by omega), Int.emod_lt_of_pos _ hk, a / k, b, rfl, Int.ediv_nonneg ha (by omega), hb, hb2⟩
    simp only [EV0, EV1, EV2, EV3, EV4, EV5, EV6, EV7, EV8, EV9, EV10, EV11, EV12, EV13, EV14, EV15, EV16, Option.bind_some, Option.bind_none, Option.map_some, Option.map_none, List.getElem?_cons_zero, List.getElem?_cons_succ, List.set_cons_zero, List.set_cons_succ, List.map_cons, List.map_nil, List.length_cons, List.length_nil, List.cons_append, List.nil_append, Bool.and_true, Bool.true_and, Bool.and_false, Bool.false_and, List.all_cons, List.all_nil, List.replicate, Bool.not_true, Bool.not_false, Bool.false_eq_true, if_true, if_false, ↓reduceIte, decide_true, decide_false, Nat.zero_add, Nat.reduceAdd, Nat.reduceSub, dd_lnbor, dd_lnown, dd_lnbrw, ix20, ixo20, divmodD, h, hk, hk3, decide_true, and_self]
  · refine ⟨(b * 48683 + 40503) % 2147483647 / 1024 % k, .lst [.int a, .int ((b * 48683 + 40503) % 2147483647)], ?_, Int.emod_nonneg _ (by omega), Int.emod_lt_of_pos _ hk, a, _, rfl, ha, Int.emod_nonneg _ (by omega), Int.emod_lt_of_pos _ (by omega)⟩
    simp only [EV0, EV1, EV2, EV3, EV4, EV5, EV6, EV7, EV8, EV9, EV10, EV11, EV12, EV13, EV14, EV15, EV16, Option.bind_some, Option.bind_none, Option.map_some, Option.map_none, List.getElem?_cons_zero, List.getElem?_cons_succ, List.set_cons_zero, List.set_cons_succ, List.map_cons, List.map_nil, List.length_cons, List.length_nil, List.cons_append, List.nil_append, Bool.and_true, Bool.true_and, Bool.and_false, Bool.false_and, List.all_cons, List.all_nil, List.replicate, Bool.not_true, Bool.not_false, Bool.false_eq_true, if_true, if_false, ↓reduceIte, decide_true, decide_false, Nat.zero_add, Nat.reduceAdd, Nat.reduceSub, dd_lnbor, dd_lnown, dd_lnbrw, ix20, ix21, ixo21, h, decide_false, mul_lit (a := b) (b := 48683) (by decide), int_i, mod_pos (b := 2147483647) (by decide), fdiv_pos (b := 1024) (by decide), mod_pos hk]
theorem drawN_eq {c : MO} (hS : Purse c) (p r : Store) (k : Nat) (hk : 0 < k) (hk2 : k < 1000) : ∃ (d : Nat) (c' : MO), m_law_draw [.han p.length, .int (k : Nat)] (p ++ c :: r) = some (.int (d : Nat), p ++ c' :: r) ∧ d < k ∧ Purse c' := by
  obtain ⟨d, c', e, h1, h2, h3⟩ := draw_eq hS p r (k : Nat) (by omega) (by omega)
  refine ⟨d.toNat, c', ?_, by omega, h3⟩
  rw [e, Int.toNat_of_nonneg h1]
theorem purse_cell (S : Store) (ns : List Int) (k : Nat) (hk : k < 4) : ∃ c, m_law_purse [.lst (ns.map .int), .int (k : Nat)] S = some (.han S.length, S ++ [c]) ∧ Purse c := by
  have loop : ∀ (l : List Int) (cell sd : Int) (o : Option DV), 0 ≤ sd → sd < 2147483648 → ∃ (sd' : Int) (o' : Option DV), 0 ≤ sd' ∧ sd' < 2147483648 ∧ (l ≠ [] → sd' < 2147483647) ∧ forL (evG (.nm 4)) (evSs law_purse_b0) (l.map .int) ([some (.imm (.lst (ns.map .int))), some (.imm (.int (k : Nat))), some (.imm (.int cell)), some (.imm (.int sd)), o], S) = some (.nx, ([some (.imm (.lst (ns.map .int))), some (.imm (.int (k : Nat))), some (.imm (.int cell)), some (.imm (.int sd')), o'], S)) := by
    intro l cell
    induction l with
    | nil => intro sd o h1 h2; exact ⟨sd, o, h1, h2, fun h => absurd rfl h, rfl⟩
    | cons x l ih =>
      intro sd o h1 h2
      obtain ⟨sd', o', g1, g2, g3, g4⟩ := ih ((sd * 41539 + x % 2147483647 + 101) % 2147483647) (some (.imm (.int x))) (Int.emod_nonneg _ (by omega)) (by have := Int.emod_lt_of_pos (sd * 41539 + x % 2147483647 + 101) (show (0 : Int) < 2147483647 by omega); omega)
      refine ⟨sd', o', g1, g2, fun _ => ?_, ?_⟩
      · cases l with
        | nil =>
          simp only [forL, List.map_nil, Option.some.injEq, Prod.mk.injEq, List.cons.injEq, DV.imm.injEq, D.int.injEq] at g4
          have := Int.emod_lt_of_pos (sd * 41539 + x % 2147483647 + 101) (show (0 : Int) < 2147483647 by omega)
          omega
        | cons y l => exact g3 (by simp)
      · rw [List.map_cons]
        unfold forL
        have hb : evSs law_purse_b0 ([some (.imm (.lst (ns.map .int))), some (.imm (.int (k : Nat))), some (.imm (.int cell)), some (.imm (.int sd)), some (.imm (.int x))], S) = some (.nx, ([some (.imm (.lst (ns.map .int))), some (.imm (.int (k : Nat))), some (.imm (.int cell)), some (.imm (.int ((sd * 41539 + x % 2147483647 + 101) % 2147483647))), some (.imm (.int x))], S)) := by
          unfold law_purse_b0
          simp only [EV0, EV1, EV2, EV3, EV4, EV5, EV6, EV7, EV8, EV9, EV10, EV11, EV12, EV13, EV14, EV15, EV16, Option.bind_some, Option.bind_none, Option.map_some, Option.map_none, List.getElem?_cons_zero, List.getElem?_cons_succ, List.set_cons_zero, List.set_cons_succ, List.map_cons, List.map_nil, List.length_cons, List.length_nil, List.cons_append, List.nil_append, Bool.and_true, Bool.true_and, Bool.and_false, Bool.false_and, List.all_cons, List.all_nil, List.replicate, Bool.not_true, Bool.not_false, Bool.false_eq_true, if_true, if_false, ↓reduceIte, decide_true, decide_false, Nat.zero_add, Nat.reduceAdd, Nat.reduceSub, dd_lnbor, dd_lnown, dd_lnbrw, mul_lit (a := sd) (b := 41539) (by decide), int_i, mod_pos (b := 2147483647) (by decide)]
        have hg : evG (.nm 4) (.int x) ([some (.imm (.lst (ns.map .int))), some (.imm (.int (k : Nat))), some (.imm (.int cell)), some (.imm (.int sd)), o], S) = some ([some (.imm (.lst (ns.map .int))), some (.imm (.int (k : Nat))), some (.imm (.int cell)), some (.imm (.int sd)), some (.imm (.int x))], S) := rfl
        rw [hg, Option.bind_some, hb, Option.bind_some]
        exact g4
  have main : ∀ cell : Int, (∀ o1 o2 : Option DV, evE (.ife (.cmp .Lt ltD (.var 1) (.bc "len" (f1 lenD) (.cons (.var 0) .nil))) (.idx ixD (.var 0) (.var 1)) (.bin .Mult mulD (.cst (.int 6151)) (.bin .Add addD (.var 1) (.cst (.int 5))))) ([some (.imm (.lst (ns.map .int))), some (.imm (.int (k : Nat))), none, o1, o2], S) = some (.int cell, ([some (.imm (.lst (ns.map .int))), some (.imm (.int (k : Nat))), none, o1, o2], S))) → ∃ c, m_law_purse [.lst (ns.map .int), .int (k : Nat)] S = some (.han S.length, S ++ [c]) ∧ Purse c := by
    intro cell hcell
    have hcut : cutL (ns.map D.int) none (some 5) = (ns.take 5).map D.int := by
      rw [show (5 : Int) = ((5 : Nat) : Int) from rfl, cut_take, List.map_take]
    have hl : okN (((ns.take 5).map D.int).length + 1) = true := okN_of (by simp; omega)
    have happ : (ns.take 5).map D.int ++ [D.int cell] = (ns.take 5 ++ [cell]).map D.int := by simp
    obtain ⟨sd', o', g1, g2, g3, g4⟩ := loop (ns.take 5 ++ [cell]) cell (907 + (k : Nat)) none (by omega) (by omega)
    have g3 := g3 (by simp)
    have hh := hcell none none
    generalize hE : (E.ife (.cmp .Lt ltD (.var 1) (.bc "len" (f1 lenD) (.cons (.var 0) .nil))) (.idx ixD (.var 0) (.var 1)) (.bin .Mult mulD (.cst (.int 6151)) (.bin .Add addD (.var 1) (.cst (.int 5))))) = ee at hh
    have hp : powD (.int 10) (.int 18) = some (.int 1000000000000000000) := rfl
    by_cases hc : 1000000000000000000 ≤ (if cell < 0 then -cell else cell)
    · refine ⟨.lst [.int (if cell < 0 then -cell else cell), .int sd'], ?_, _, _, rfl, by split <;> omega, g1, g3⟩
      unfold m_law_purse ir_law_purse
      rw [hE]
      simp only [EV0, EV1, EV2, EV3, EV4, EV5, EV6, EV7, EV8, EV9, EV10, EV11, EV12, EV13, EV14, EV15, EV16, Option.bind_some, Option.bind_none, Option.map_some, Option.map_none, List.getElem?_cons_zero, List.getElem?_cons_succ, List.set_cons_zero, List.set_cons_succ, List.map_cons, List.map_nil, List.length_cons, List.length_nil, List.cons_append, List.nil_append, Bool.and_true, Bool.true_and, Bool.and_false, Bool.false_and, List.all_cons, List.all_nil, List.replicate, Bool.not_true, Bool.not_false, Bool.false_eq_true, if_true, if_false, ↓reduceIte, decide_true, decide_false, Nat.zero_add, Nat.reduceAdd, Nat.reduceSub, dd_lnbor, dd_lnown, dd_lnbrw, hh, addD, slD, hcut, hl, happ, g4, absD, hp, hc, decide_true, decide_false]
    · refine ⟨.lst [.int 0, .int sd'], ?_, _, _, rfl, by omega, g1, g3⟩
      unfold m_law_purse ir_law_purse
      rw [hE]
      simp only [EV0, EV1, EV2, EV3, EV4, EV5, EV6, EV7, EV8, EV9, EV10, EV11, EV12, EV13, EV14, EV15, EV16, Option.bind_some, Option.bind_none, Option.map_some, Option.map_none, List.getElem?_cons_zero, List.getElem?_cons_succ, List.set_cons_zero, List.set_cons_succ, List.map_cons, List.map_nil, List.length_cons, List.length_nil, List.cons_append, List.nil_append, Bool.and_true, Bool.true_and, Bool.and_false, Bool.false_and, List.all_cons, List.all_nil, List.replicate, Bool.not_true, Bool.not_false, Bool.false_eq_true, if_true, if_false, ↓reduceIte, decide_true, decide_false, Nat.zero_add, Nat.reduceAdd, Nat.reduceSub, dd_lnbor, dd_lnown, dd_lnbrw, hh, addD, slD, hcut, hl, happ, g4, absD, hp, hc, decide_true, decide_false]
  by_cases h : (k : Int) < (ns.length : Nat)
  · have hk' : k < ns.length := by omega
    have hx : L2.ixN ns.length ((k : Nat) : Int) = some k := by unfold L2.ixN; simp; omega
    exact main ns[k] fun o1 o2 => by simp [EV0, EV1, EV2, EV3, EV4, EV5, EV6, EV7, EV8, EV9, EV10, EV11, EV12, EV13, EV14, EV15, EV16, Option.bind_some, Option.bind_none, Option.map_some, Option.map_none, List.getElem?_cons_zero, List.getElem?_cons_succ, List.set_cons_zero, List.set_cons_succ, List.map_cons, List.map_nil, List.length_cons, List.length_nil, List.cons_append, List.nil_append, Bool.and_true, Bool.true_and, Bool.and_false, Bool.false_and, List.all_cons, List.all_nil, List.replicate, Bool.not_true, Bool.not_false, Bool.false_eq_true, if_true, if_false, ↓reduceIte, decide_true, decide_false, Nat.zero_add, Nat.reduceAdd, Nat.reduceSub, dd_lnbor, dd_lnown, dd_lnbrw, ltD, lenD, h, ixD, hx, hk']
  · exact main (6151 * ((k : Nat) + 5)) fun o1 o2 => by
      have hm : (k : Int) + 5 < 18446744073709551616 := by omega
      simp [EV0, EV1, EV2, EV3, EV4, EV5, EV6, EV7, EV8, EV9, EV10, EV11, EV12, EV13, EV14, EV15, EV16, Option.bind_some, Option.bind_none, Option.map_some, Option.map_none, List.getElem?_cons_zero, List.getElem?_cons_succ, List.set_cons_zero, List.set_cons_succ, List.map_cons, List.map_nil, List.length_cons, List.length_nil, List.cons_append, List.nil_append, Bool.and_true, Bool.true_and, Bool.and_false, Bool.false_and, List.all_cons, List.all_nil, List.replicate, Bool.not_true, Bool.not_false, Bool.false_eq_true, if_true, if_false, ↓reduceIte, decide_true, decide_false, Nat.zero_add, Nat.reduceAdd, Nat.reduceSub, dd_lnbor, dd_lnown, dd_lnbrw, ltD, lenD, h, addD, mulD]
end KK
set_option Elab.async false
set_option linter.all false
set_option maxRecDepth 100000
set_option maxHeartbeats 1000000
/-! P2: what the law draws -/
namespace DE
open PySem
/-- a comprehension over one name, without a test, that may change slots and store; I speaks of the items so far -/
theorem comp_acc {it : IE} {e : E} {x : Str} {i : Nat} {α : Type} (xs : List α) (enc : α → D) (I : List D → Rho → Store → Prop) {ρ : Rho} {S : Store}
    (hit : evI it (ρ, S) = some (xs.map enc, (ρ, S))) (hI : I [] (ρ.set i none) S) (hl : xs.length ≤ 16777216)
    (hb : ∀ acc a r s, xs[acc.length]? = some a → I acc r s → ∃ y r' s', evE e (r.set i (some (.imm (enc a))), s) = some (y, (r', s')) ∧ y.plain = true ∧ I (acc ++ [y]) (r'.set i none) s') :
    ∃ ys r' S', evF (.comp it (.nm i) .no e [(x, i)]) (ρ, S) = some (ys, (backR ρ r' [i], S')) ∧ I ys r' S' ∧ ys.length = xs.length := by
  have key : ∀ (ys : List α) (acc : List D) (r : Rho) (s : Store), (∀ k a, ys[k]? = some a → xs[acc.length + k]? = some a) → I acc r s → acc.length + ys.length ≤ 16777216 → ∃ zs r' s', compL (.nm i) (evOT .no) (evE e) [i] (ys.map enc) (r, s) acc = some (acc ++ zs, (r', s')) ∧ I (acc ++ zs) r' s' ∧ zs.length = ys.length := by
    intro ys
    induction ys with
    | nil => intro acc r s _ hi _; exact ⟨[], r, s, by simp [compL], by simpa using hi, rfl⟩
    | cons a ys ih =>
      intro acc r s hm hi hl
      obtain ⟨y, r', s', h1, h2, h4⟩ := hb acc a r s (by simpa using hm 0 a rfl) hi
      have hc : Nat.blt acc.length 16777216 = true := Nat.ble_eq_true_of_le (by rw [List.length_cons] at hl; omega)
      obtain ⟨zs, r2, s2, g1, g2, g3⟩ := ih (acc ++ [y]) (r'.set i none) s' (fun k b hk => by
        have := hm (k + 1) b (by simpa using hk)
        rw [List.length_append, List.length_singleton]
        rwa [show acc.length + (k + 1) = acc.length + 1 + k by omega] at this) h4 (by rw [List.length_append]; rw [List.length_cons] at hl; simp; omega)
      refine ⟨y :: zs, r2, s2, ?_, by simpa using g2, by simp [g3]⟩
      rw [List.map_cons]
      unfold compL
      have e1 : ctD (.nm i) (enc a) (r, s) = some (r.set i (some (.imm (enc a))), s) := rfl
      have e2 : evOT .no (r.set i (some (.imm (enc a))), s) = some (true, (r.set i (some (.imm (enc a))), s)) := rfl
      rw [e1, Option.bind_some, e2, Option.bind_some]
      simp only [if_true]
      rw [h1, Option.bind_some, h2, hc]
      simp only [Bool.and_self, if_true, wipe1]
      rw [g1]
      simp
  obtain ⟨zs, r', s', g1, g2, g3⟩ := key xs [] (ρ.set i none) S (fun k a h => by simpa using h) hI (by simpa using hl)
  refine ⟨zs, r', s', ?_, by simpa using g2, g3⟩
  show fComp (evI it) (.nm i) (evOT .no) (evE e) [i] (ρ, S) = _
  unfold fComp
  rw [hit, Option.bind_some, wipe1, g1]
  simp
/-- a loop whose turns all go on -/
theorem for_acc {g : Gt} {b : Ss} {α : Type} (xs : List α) (enc : α → D) (J : Nat → Z → Prop) {z : Z} (h0 : J 0 z)
    (hb : ∀ k a z, xs[k]? = some a → J k z → ∃ z1 z2, evG g (enc a) z = some z1 ∧ (evSs b z1 = some (.nx, z2) ∨ evSs b z1 = some (.ct, z2)) ∧ J (k + 1) z2) :
    ∃ z', forL (evG g) (evSs b) (xs.map enc) z = some (.nx, z') ∧ J xs.length z' := by
  obtain ⟨z', e, j⟩ := forL_inv (g := evG g) (b := evSs b) J (xs.map enc) 0 z h0 fun i d z hd hz => by
    rw [List.getElem?_map] at hd
    cases e : xs[i]? with
    | none => rw [e] at hd; cases hd
    | some a =>
      rw [e] at hd
      cases hd
      rw [Nat.zero_add] at hz ⊢
      exact hb i a z e hz
  refine ⟨z', e, ?_⟩
  rw [List.length_map, Nat.zero_add] at j
  exact j
theorem evI_rng {e : E} {z : Z} {m : Nat} (h : evE e z = some (.int (m : Nat), z)) (hm : m ≤ 1000000000) : evI (.rg1 e) z = some ((List.range m).map (fun i => D.int (i : Nat)), z) := by
  rw [I_rg1, h, Option.bind_some]
  show rg1B z (.int (m : Nat)) = _
  rw [rg1_int, bigOk_of (by omega) (by omega)]
  simp [rng_map]
theorem exists_map {α : Type} {f : α → D} {R : α → Prop} : ∀ {ys : List D}, (∀ y ∈ ys, ∃ a, y = f a ∧ R a) → ∃ l : List α, ys = l.map f ∧ ∀ a ∈ l, R a
  | [], _ => ⟨[], rfl, fun a h => by cases h⟩
  | y :: ys, h => by
    obtain ⟨a, rfl, r⟩ := h y (List.mem_cons_self ..)
    obtain ⟨l, rfl, hl⟩ := exists_map fun y hy => h y (List.mem_cons_of_mem _ hy)
    exact ⟨a :: l, rfl, fun b hb => by rcases List.mem_cons.mp hb with rfl | hb; exact r; exact hl b hb⟩
end DE
namespace KK
open PySem DE
/-! ### joined signs -/
theorem join_nil : ∀ l : List Nat, TL.joinL [] (l.map fun c => [c]) = l
  | [] => rfl
  | [c] => rfl
  | c :: d :: r => by
    have := join_nil (d :: r)
    simp only [List.map_cons] at this ⊢
    show [c] ++ ([] ++ TL.joinL [] ([d] :: r.map fun c => [c])) = _
    rw [this]
    rfl
theorem strs_signs (l : List Nat) : strsD (l.map fun c => D.str [c]) = some (l.map fun c => [c]) := by
  have := strsD_map (l.map fun c => [c])
  rwa [List.map_map] at this
theorem sum_ones (l : List Nat) : ((l.map fun c => [c]).map (·.length)).sum = l.length := by
  induction l with
  | nil => rfl
  | cons a l ih => simp at ih ⊢; omega
theorem join_signs (l : List Nat) (h : l.length ≤ 1000) : joinD (.str []) (.lst (l.map fun c => D.str [c])) = some (.str l) := by
  unfold joinD
  simp only
  rw [strs_signs, Option.bind_some, sum_ones, join_nil]
  rw [if_pos]
  simp [okN]
  omega
/-! ### turned, flipped -/
def flip1 (c : Nat) : Nat := if c = 43 then 45 else if c = 45 then 43 else 46
theorem flip_sgn (c : Nat) : sgn (flip1 c) = true := by
  unfold flip1
  split
  · rfl
  · split <;> rfl
theorem flip_dlk {c : Nat} (h : sgn c = true) : dlk [([43], [45]), ([45], [43]), ([46], [46])] [c] = some [flip1 c] := by
  unfold sgn at h
  simp only [List.mem_cons, List.not_mem_nil, or_false, decide_eq_true_eq] at h
  rcases h with rfl | rfl | rfl <;> rfl
theorem turned_eq (s : List Nat) (S : Store) (hs : s.all sgn = true) (hl : s.length ≤ 1000) : m_turned [.str s] S = some (.str (s.map flip1), S) := by
  have hj := join_signs (s.map flip1) (by simpa using hl)
  have hc : evF turned_c0 ([some (.imm (.str s)), none], S) = some (s.map (fun c => D.str [flip1 c]), ([some (.imm (.str s)), none], S)) := by
    unfold turned_c0
    refine comp_map s (fun c => D.str [c]) (fun c => D.str [flip1 c]) rfl rfl (by omega) fun c hc => ⟨?_, rfl⟩
    rw [List.all_eq_true] at hs
    simp only [EV0, EV1, EV2, EV3, EV4, EV5, EV6, EV7, EV8, EV9, EV10, EV11, EV12, EV13, EV14, EV15, EV16, Option.bind_some, Option.bind_none, Option.map_some, Option.map_none, List.getElem?_cons_zero, List.getElem?_cons_succ, List.set_cons_zero, List.set_cons_succ, List.map_cons, List.map_nil, List.length_cons, List.length_nil, List.cons_append, List.nil_append, Bool.and_true, Bool.true_and, Bool.and_false, Bool.false_and, List.all_cons, List.all_nil, List.replicate, Bool.not_true, Bool.not_false, Bool.false_eq_true, if_true, if_false, ↓reduceIte, decide_true, decide_false, Nat.zero_add, Nat.reduceAdd, Nat.reduceSub, dd_lnbor, dd_lnown, dd_lnbrw, fDsub, flip_dlk (hs c hc)]
  have hm : s.map (fun c => D.str [flip1 c]) = (s.map flip1).map (fun c => D.str [c]) := by simp
  rw [hm] at hc
  unfold m_turned ir_turned
  simp only [EV0, EV1, EV2, EV3, EV4, EV5, EV6, EV7, EV8, EV9, EV10, EV11, EV12, EV13, EV14, EV15, EV16, Option.bind_some, Option.bind_none, Option.map_some, Option.map_none, List.getElem?_cons_zero, List.getElem?_cons_succ, List.set_cons_zero, List.set_cons_succ, List.map_cons, List.map_nil, List.length_cons, List.length_nil, List.cons_append, List.nil_append, Bool.and_true, Bool.true_and, Bool.and_false, Bool.false_and, List.all_cons, List.all_nil, List.replicate, Bool.not_true, Bool.not_false, Bool.false_eq_true, if_true, if_false, ↓reduceIte, decide_true, decide_false, Nat.zero_add, Nat.reduceAdd, Nat.reduceSub, dd_lnbor, dd_lnown, dd_lnbrw, hc, hj]
theorem flipped_eq (s : List Nat) (S : Store) (hs : s.all sgn = true) (hl : s.length ≤ 1000) : m_law_flipped [.str s] S = some (.str (s.map flip1), S) := turned_eq s S hs hl
/-! ### holds -/
def hold (row : List Nat) : List Nat → Bool
  | [] => true
  | k :: o => if row.getD k 46 = 46 then hold row o else row.getD k 46 == 43
theorem ix_row {r : List Nat} {k : Nat} (h : k < r.length) : ixD (.str r) (.int (k : Nat)) = some (.str [r.getD k 46]) := by
  have e : L2.ixN r.length (k : Int) = some k := by unfold L2.ixN; simp; omega
  unfold ixD
  simp [e, h]
theorem ix_lst {l : List D} {k : Nat} (h : k < l.length) : ixD (.lst l) (.int (k : Nat)) = some l[k] := by
  have e : L2.ixN l.length (k : Int) = some k := by unfold L2.ixN; simp; omega
  unfold ixD
  simp [e, h]
theorem ix_tup {l : List D} {k : Nat} (h : k < l.length) : ixD (.tup l) (.int (k : Nat)) = some l[k] := by
  have e : L2.ixN l.length (k : Int) = some k := by unfold L2.ixN; simp; omega
  unfold ixD
  simp [e, h]
theorem ix_l0 {l : List D} {d : D} : ixD (.lst (d :: l)) (.int 0) = some d := ix_lst (l := d :: l) (k := 0) (by simp)
theorem ix_t0 {l : List D} {d : D} : ixD (.tup (d :: l)) (.int 0) = some d := ix_tup (l := d :: l) (k := 0) (by simp)
theorem ix_l1 {l : List D} {c d : D} : ixD (.lst (c :: d :: l)) (.int 1) = some d := ix_lst (l := c :: d :: l) (k := 1) (by simp)
theorem ix_t1 {l : List D} {c d : D} : ixD (.tup (c :: d :: l)) (.int 1) = some d := ix_tup (l := c :: d :: l) (k := 1) (by simp)
theorem eq_nil {l : List D} (h : l.all (dpt 31) = true) : eqD (.lst l) (.lst []) = some (.bl l.isEmpty) := by
  unfold eqD shp
  simp only [dpt, h]
  cases l <;> rfl
theorem eq_nilT {l : List D} (h : l.all (dpt 31) = true) : eqD (.tup l) (.tup []) = some (.bl l.isEmpty) := by
  unfold eqD shp
  simp only [dpt, h]
  cases l <;> rfl
theorem ne_nil {l : List D} (h : l.all (dpt 31) = true) : neD (.lst l) (.lst []) = some (.bl (!l.isEmpty)) := by
  unfold neD; rw [eq_nil h]; rfl
theorem dpt_str {n : Nat} {s : List Nat} : dpt n (.str s) = true := by cases n <;> rfl
theorem dpt_int {n : Nat} {s : Int} : dpt n (.int s) = true := by cases n <;> rfl
theorem dpt_non {n : Nat} : dpt n .non = true := by cases n <;> rfl
theorem dpt_bl {n : Nat} {b : Bool} : dpt n (.bl b) = true := by cases n <;> rfl
theorem dpts_str {α : Type} {n : Nat} (f : α → List Nat) (l : List α) : (l.map fun a => D.str (f a)).all (dpt n) = true := by
  rw [List.all_map, List.all_eq_true]; exact fun _ _ => dpt_str
theorem dpts_int {α : Type} {n : Nat} (f : α → Int) (l : List α) : (l.map fun a => D.int (f a)).all (dpt n) = true := by
  rw [List.all_map, List.all_eq_true]; exact fun _ _ => dpt_int
def enI (o : List Nat) : List D := o.map fun k => D.int (k : Nat)
theorem hold_first (row : List Nat) : ∀ o : List Nat, hold row o = (match (o.filter fun k => !decide (row.getD k 46 = 46)) with | [] => true | k :: _ => row.getD k 46 == 43)
  | [] => rfl
  | k :: o => by
    unfold hold
    by_cases h : row.getD k 46 = 46
    · rw [if_pos h, List.filter_cons_of_neg (by simp only [h, decide_true, Bool.not_true, Bool.false_eq_true, not_false_eq_true]), hold_first row o]
    · rw [if_neg h, List.filter_cons_of_pos (by simp only [h, decide_false, Bool.not_false])]
theorem holds_gen (row o : List Nat) (S : Store) (seq : D) (hs : itD seq = some (enI o)) (hd : toDV seq = .imm seq) (ho : ∀ k ∈ o, k < row.length) (hl : o.length ≤ 1000) : m_law_holds [.str row, seq] S = some (.bl (hold row o), S) := by
  have hc : evF law_holds_c0 ([some (.imm (.str row)), some (.imm seq), none, none], S) = some ((o.filter fun k => !decide (row.getD k 46 = 46)).map (fun k => D.str [row.getD k 46]), ([some (.imm (.str row)), some (.imm seq), none, none], S)) := by
    unfold law_holds_c0
    refine comp_nm o (fun k => D.int (k : Nat)) _ _ ?_ rfl (by omega) fun k hk => ⟨?_, fun _ => ⟨?_, rfl⟩⟩
    · simp only [EV0, EV1, EV2, EV3, EV4, EV5, EV6, EV7, EV8, EV9, EV10, EV11, EV12, EV13, EV14, EV15, EV16, Option.bind_some, Option.bind_none, Option.map_some, Option.map_none, List.getElem?_cons_zero, List.getElem?_cons_succ, List.set_cons_zero, List.set_cons_succ, List.map_cons, List.map_nil, List.length_cons, List.length_nil, List.cons_append, List.nil_append, Bool.and_true, Bool.true_and, Bool.and_false, Bool.false_and, List.all_cons, List.all_nil, List.replicate, Bool.not_true, Bool.not_false, Bool.false_eq_true, if_true, if_false, ↓reduceIte, decide_true, decide_false, Nat.zero_add, Nat.reduceAdd, Nat.reduceSub, dd_lnbor, dd_lnown, dd_lnbrw, hs]; rfl
    · simp only [EV0, EV1, EV2, EV3, EV4, EV5, EV6, EV7, EV8, EV9, EV10, EV11, EV12, EV13, EV14, EV15, EV16, Option.bind_some, Option.bind_none, Option.map_some, Option.map_none, List.getElem?_cons_zero, List.getElem?_cons_succ, List.set_cons_zero, List.set_cons_succ, List.map_cons, List.map_nil, List.length_cons, List.length_nil, List.cons_append, List.nil_append, Bool.and_true, Bool.true_and, Bool.and_false, Bool.false_and, List.all_cons, List.all_nil, List.replicate, Bool.not_true, Bool.not_false, Bool.false_eq_true, if_true, if_false, ↓reduceIte, decide_true, decide_false, Nat.zero_add, Nat.reduceAdd, Nat.reduceSub, dd_lnbor, dd_lnown, dd_lnbrw, ix_row (ho k hk), List.cons.injEq, and_true]
    · simp only [EV0, EV1, EV2, EV3, EV4, EV5, EV6, EV7, EV8, EV9, EV10, EV11, EV12, EV13, EV14, EV15, EV16, Option.bind_some, Option.bind_none, Option.map_some, Option.map_none, List.getElem?_cons_zero, List.getElem?_cons_succ, List.set_cons_zero, List.set_cons_succ, List.map_cons, List.map_nil, List.length_cons, List.length_nil, List.cons_append, List.nil_append, Bool.and_true, Bool.true_and, Bool.and_false, Bool.false_and, List.all_cons, List.all_nil, List.replicate, Bool.not_true, Bool.not_false, Bool.false_eq_true, if_true, if_false, ↓reduceIte, decide_true, decide_false, Nat.zero_add, Nat.reduceAdd, Nat.reduceSub, dd_lnbor, dd_lnown, dd_lnbrw, ix_row (ho k hk)]
  rw [hold_first]
  unfold m_law_holds ir_law_holds
  simp only [EV0, EV1, EV2, EV3, EV4, EV5, EV6, EV7, EV8, EV9, EV10, EV11, EV12, EV13, EV14, EV15, EV16, Option.bind_some, Option.bind_none, Option.map_some, Option.map_none, List.getElem?_cons_zero, List.getElem?_cons_succ, List.set_cons_zero, List.set_cons_succ, List.map_cons, List.map_nil, List.length_cons, List.length_nil, List.cons_append, List.nil_append, Bool.and_true, Bool.true_and, Bool.and_false, Bool.false_and, List.all_cons, List.all_nil, List.replicate, Bool.not_true, Bool.not_false, Bool.false_eq_true, if_true, if_false, ↓reduceIte, decide_true, decide_false, Nat.zero_add, Nat.reduceAdd, Nat.reduceSub, dd_lnbor, dd_lnown, dd_lnbrw, hd, hc]
  generalize o.filter (fun k => !decide (row.getD k 46 = 46)) = l
  simp only [eq_nil (dpts_str (fun k => [row.getD k 46]) l), EV0, EV1, EV2, EV3, EV4, EV5, EV6, EV7, EV8, EV9, EV10, EV11, EV12, EV13, EV14, EV15, EV16, Option.bind_some, Option.bind_none, Option.map_some, Option.map_none, List.getElem?_cons_zero, List.getElem?_cons_succ, List.set_cons_zero, List.set_cons_succ, List.map_cons, List.map_nil, List.length_cons, List.length_nil, List.cons_append, List.nil_append, Bool.and_true, Bool.true_and, Bool.and_false, Bool.false_and, List.all_cons, List.all_nil, List.replicate, Bool.not_true, Bool.not_false, Bool.false_eq_true, if_true, if_false, ↓reduceIte, decide_true, decide_false, Nat.zero_add, Nat.reduceAdd, Nat.reduceSub, dd_lnbor, dd_lnown, dd_lnbrw]
  cases l with
  | nil => simp only [List.map_nil, List.isEmpty_nil, EV0, EV1, EV2, EV3, EV4, EV5, EV6, EV7, EV8, EV9, EV10, EV11, EV12, EV13, EV14, EV15, EV16, Option.bind_some, Option.bind_none, Option.map_some, Option.map_none, List.getElem?_cons_zero, List.getElem?_cons_succ, List.set_cons_zero, List.set_cons_succ, List.map_cons, List.map_nil, List.length_cons, List.length_nil, List.cons_append, List.nil_append, Bool.and_true, Bool.true_and, Bool.and_false, Bool.false_and, List.all_cons, List.all_nil, List.replicate, Bool.not_true, Bool.not_false, Bool.false_eq_true, if_true, if_false, ↓reduceIte, decide_true, decide_false, Nat.zero_add, Nat.reduceAdd, Nat.reduceSub, dd_lnbor, dd_lnown, dd_lnbrw]
  | cons k l =>
    simp only [List.map_cons, List.isEmpty_cons, EV0, EV1, EV2, EV3, EV4, EV5, EV6, EV7, EV8, EV9, EV10, EV11, EV12, EV13, EV14, EV15, EV16, Option.bind_some, Option.bind_none, Option.map_some, Option.map_none, List.getElem?_cons_zero, List.getElem?_cons_succ, List.set_cons_zero, List.set_cons_succ, List.map_cons, List.map_nil, List.length_cons, List.length_nil, List.cons_append, List.nil_append, Bool.and_true, Bool.true_and, Bool.and_false, Bool.false_and, List.all_cons, List.all_nil, List.replicate, Bool.not_true, Bool.not_false, Bool.false_eq_true, if_true, if_false, ↓reduceIte, decide_true, decide_false, Nat.zero_add, Nat.reduceAdd, Nat.reduceSub, dd_lnbor, dd_lnown, dd_lnbrw, ix_l0, List.cons.injEq, and_true]
    rfl
theorem holds_lst (row o : List Nat) (S : Store) (ho : ∀ k ∈ o, k < row.length) (hl : o.length ≤ 1000) : m_law_holds [.str row, .lst (enI o)] S = some (.bl (hold row o), S) := holds_gen row o S _ rfl rfl ho hl
theorem holds_tup (row o : List Nat) (S : Store) (ho : ∀ k ∈ o, k < row.length) (hl : o.length ≤ 1000) : m_law_holds [.str row, .tup (enI o)] S = some (.bl (hold row o), S) := holds_gen row o S _ rfl rfl ho hl
end KK
set_option Elab.async false
set_option linter.all false
set_option maxRecDepth 100000
set_option maxHeartbeats 1000000
/-! P3: rows, labels, books as the law draws them -/
namespace KK
open PySem DE
/-- a row with m signs -/
def Row (m : Nat) (s : List Nat) : Prop := s.length = m ∧ s.all sgn = true
theorem Row.flip {m : Nat} {s : List Nat} (h : Row m s) : Row m (s.map flip1) := ⟨by rw [List.length_map]; exact h.1, by rw [List.all_map, List.all_eq_true]; exact fun c _ => flip_sgn c⟩
theorem signs_eq {c : MO} (hS : Purse c) (p r : Store) (m : Nat) (hm : m ≤ 1000) : ∃ s c', m_law_signs [.han p.length, .int (m : Nat)] (p ++ c :: r) = some (.str s, p ++ c' :: r) ∧ Row m s ∧ Purse c' := by
  obtain ⟨ys, r', S', e, ⟨s, rfl, rfl, hs, c', rfl, hc'⟩, hl⟩ := comp_acc (it := .rg1 (.var 1)) (x := "_law_k") (i := 2) (e := .idx ixD (.cst (.str [43, 45, 46, 46])) (.call "_law_draw" 2 m_law_draw (.cons (.var 0) (.cons (.cst (.int 4)) .nil)))) (ρ := [some (.imm (.han p.length)), some (.imm (.int (m : Nat))), none]) (S := p ++ c :: r) (List.range m) (fun k => D.int (k : Nat))
    (fun acc ρ S => ∃ s : List Nat, acc = s.map (fun c => D.str [c]) ∧ ρ = [some (.imm (.han p.length)), some (.imm (.int (m : Nat))), none] ∧ s.all sgn = true ∧ ∃ c', S = p ++ c' :: r ∧ Purse c')
    (evI_rng rfl (by omega)) ⟨[], rfl, rfl, rfl, c, rfl, hS⟩ (by simp; omega) (fun acc k ρ S hk hI => by
      obtain ⟨s, rfl, rfl, hs, c', rfl, hc'⟩ := hI
      obtain ⟨d, c2, e, hd, hc2⟩ := drawN_eq hc' p r 4 (by omega) (by omega)
      have hx := ix_row (r := [43, 45, 46, 46]) (k := d) hd
      refine ⟨.str [[43, 45, 46, 46].getD d 46], [some (.imm (.han p.length)), some (.imm (.int (m : Nat))), some (.imm (.int (k : Nat)))], p ++ c2 :: r, ?_, rfl, s ++ [[43, 45, 46, 46].getD d 46], by simp, rfl, ?_, c2, rfl, hc2⟩
      · have e : m_law_draw [.han p.length, .int 4] (p ++ c' :: r) = some (.int (d : Nat), p ++ c2 :: r) := e
        simp only [EV0, EV1, EV2, EV3, EV4, EV5, EV6, EV7, EV8, EV9, EV10, EV11, EV12, EV13, EV14, EV15, EV16, Option.bind_some, Option.bind_none, Option.map_some, Option.map_none, List.getElem?_cons_zero, List.getElem?_cons_succ, List.set_cons_zero, List.set_cons_succ, List.map_cons, List.map_nil, List.length_cons, List.length_nil, List.cons_append, List.nil_append, Bool.and_true, Bool.true_and, Bool.and_false, Bool.false_and, List.all_cons, List.all_nil, List.replicate, Bool.not_true, Bool.not_false, Bool.false_eq_true, if_true, if_false, ↓reduceIte, decide_true, decide_false, Nat.zero_add, Nat.reduceAdd, Nat.reduceSub, dd_lnbor, dd_lnown, dd_lnbrw, e, hx]
      · rw [List.all_append, hs]
        have : d = 0 ∨ d = 1 ∨ d = 2 ∨ d = 3 := by omega
        rcases this with rfl | rfl | rfl | rfl <;> rfl)
  refine ⟨s, c', ?_, ⟨by simpa using hl, hs⟩, hc'⟩
  have e : evF law_signs_c0 ([some (.imm (.han p.length)), some (.imm (.int (m : Nat))), none], p ++ c :: r) = some (s.map (fun c => D.str [c]), ([some (.imm (.han p.length)), some (.imm (.int (m : Nat))), none], p ++ c' :: r)) := e
  unfold m_law_signs ir_law_signs
  simp only [EV0, EV1, EV2, EV3, EV4, EV5, EV6, EV7, EV8, EV9, EV10, EV11, EV12, EV13, EV14, EV15, EV16, Option.bind_some, Option.bind_none, Option.map_some, Option.map_none, List.getElem?_cons_zero, List.getElem?_cons_succ, List.set_cons_zero, List.set_cons_succ, List.map_cons, List.map_nil, List.length_cons, List.length_nil, List.cons_append, List.nil_append, Bool.and_true, Bool.true_and, Bool.and_false, Bool.false_and, List.all_cons, List.all_nil, List.replicate, Bool.not_true, Bool.not_false, Bool.false_eq_true, if_true, if_false, ↓reduceIte, decide_true, decide_false, Nat.zero_add, Nat.reduceAdd, Nat.reduceSub, dd_lnbor, dd_lnown, dd_lnbrw, e, join_signs s (by rw [List.length_map, List.length_range] at hl; omega)]
/-! ### labels -/
def words : List (List Nat) := [[97], [98], [99, 111, 115, 116], [102, 97, 114], [108, 101, 118, 101, 108], [110, 101, 97, 114], [115, 97, 102, 101], [116], [119, 105, 100, 116, 104], [122, 122, 122, 122, 122, 122, 122, 122]]
def isWord (w : List Nat) : Bool := decide (1 ≤ w.length) && decide (w.length ≤ 8) && w.all fun c => decide (97 ≤ c ∧ c ≤ 122)
/-- the names of rules -/
structure Names (L : List (List Nat)) : Prop where
  w : ∀ w ∈ L, isWord w = true
  asc : L.Pairwise (· < ·)
theorem ixOf_nat {n k : Nat} (h : k < n) : ixOf n (k : Int) = some k := by unfold ixOf; simp; omega
theorem erase_split {α : Type} {l : List α} {k : Nat} : l.eraseIdx k = l.take k ++ l.drop (k + 1) := List.eraseIdx_eq_take_drop_succ ..
theorem erase_map {α β : Type} {f : α → β} {l : List α} {k : Nat} : (l.map f).eraseIdx k = (l.eraseIdx k).map f := by
  rw [erase_split, erase_split, List.map_append, List.map_take, List.map_drop]
theorem pop_map {α : Type} {f : α → D} {l : List α} {k : Nat} (h : k < l.length) : oPop (l.map f) [.int (k : Nat)] = some (f l[k], (l.eraseIdx k).map f) := by
  unfold oPop
  simp only [List.length_map, ixOf_nat h, Option.bind_some, List.getElem?_map, List.getElem?_eq_getElem h, Option.map_some, erase_map]
theorem pop_perm {α : Type} {done left : List α} {k : Nat} (h : k < left.length) : ((done ++ [left[k]]) ++ left.eraseIdx k).Perm (done ++ left) := by
  rw [List.append_assoc, List.singleton_append]
  refine List.Perm.append_left _ ?_
  rw [erase_split]
  have e : left = left.take k ++ left[k] :: left.drop (k + 1) := by rw [← List.drop_eq_getElem_cons h, List.take_append_drop]
  conv => rhs; rw [e]
  exact List.perm_middle.symm
theorem words_lt : ∀ a ∈ words, ∀ b ∈ words, a ≤ b → a ≠ b → a < b := by decide +kernel
theorem words_nd : words.Nodup := by decide +kernel
theorem words_w : ∀ a ∈ words, isWord a = true := by decide +kernel
theorem intsD_str {s : List Nat} {l : List D} : intsD (.str s :: l) = none := rfl
theorem sorted_strs {l : List (List Nat)} (h : l.length < 64) : sortedD (.lst (l.map D.str)) = some ((srtS l).map D.str) := by
  cases l with
  | nil =>
    simp [sortedD, srtS, srtI, intsD, okN]
  | cons a l =>
    have e : Nat.blt (a :: l).length 64 = true := Nat.ble_eq_true_of_le h
    have e2 : strsD ((a :: l).map D.str) = some (a :: l) := strsD_map (a :: l)
    unfold sortedD
    simp only [List.map_cons, intsD_str]
    rw [← List.map_cons (f := D.str), e2]
    simp only [e, if_true]
theorem labels_eq {c : MO} (hS : Purse c) (p r : Store) (m : Nat) (hm : m ≤ 8) : ∃ L c', m_law_labels [.han p.length, .int (m : Nat)] (p ++ c :: r) = some (.lst (L.map D.str), p ++ c' :: r) ∧ L.length = m ∧ Names L ∧ Purse c' := by
  obtain ⟨ys, r', S', e, ⟨done, left, rfl, rfl, hp, c', rfl, hc'⟩, hl⟩ := comp_acc (it := .rg1 (.var 1)) (x := "_law_k") (i := 3) (e := .own 2 "pop" oPop (.cons (.call "_law_draw" 2 m_law_draw (.cons (.var 0) (.cons (.bc "len" (f1 lenD) (.cons (.var 2) .nil)) .nil))) .nil)) (ρ := [some (.imm (.han p.length)), some (.imm (.int (m : Nat))), some (.own (words.map D.str)), none]) (S := p ++ c :: r) (List.range m) (fun k => D.int (k : Nat))
    (fun acc ρ S => ∃ done left : List (List Nat), acc = done.map D.str ∧ ρ = [some (.imm (.han p.length)), some (.imm (.int (m : Nat))), some (.own (left.map D.str)), none] ∧ (done ++ left).Perm words ∧ ∃ c', S = p ++ c' :: r ∧ Purse c')
    (evI_rng rfl (by omega)) ⟨[], words, rfl, rfl, .refl _, c, rfl, hS⟩ (by simp; omega) (fun acc k ρ S hk hI => by
      obtain ⟨done, left, rfl, rfl, hp, c', rfl, hc'⟩ := hI
      have hk1 : done.length < m := by
        have := (List.getElem?_eq_some_iff.mp hk).1
        simpa using this
      have hlen : done.length + left.length = 10 := by simpa [words] using hp.length_eq
      obtain ⟨d, c2, e, hd, hc2⟩ := drawN_eq hc' p r left.length (by omega) (by omega)
      refine ⟨.str left[d], [some (.imm (.han p.length)), some (.imm (.int (m : Nat))), some (.own ((left.eraseIdx d).map D.str)), some (.imm (.int (k : Nat)))], p ++ c2 :: r, ?_, rfl, done ++ [left[d]], left.eraseIdx d, by simp, rfl, (pop_perm hd).trans hp, c2, rfl, hc2⟩
      have hok : okLen ((left.eraseIdx d).map D.str) = true := okLen_of (by rw [List.length_map, List.length_eraseIdx_of_lt hd]; omega)
      simp only [EV0, EV1, EV2, EV3, EV4, EV5, EV6, EV7, EV8, EV9, EV10, EV11, EV12, EV13, EV14, EV15, EV16, Option.bind_some, Option.bind_none, Option.map_some, Option.map_none, List.getElem?_cons_zero, List.getElem?_cons_succ, List.set_cons_zero, List.set_cons_succ, List.map_cons, List.map_nil, List.length_cons, List.length_nil, List.cons_append, List.nil_append, Bool.and_true, Bool.true_and, Bool.and_false, Bool.false_and, List.all_cons, List.all_nil, List.replicate, Bool.not_true, Bool.not_false, Bool.false_eq_true, if_true, if_false, ↓reduceIte, decide_true, decide_false, Nat.zero_add, Nat.reduceAdd, Nat.reduceSub, dd_lnbor, dd_lnown, dd_lnbrw, List.length_map, e, pop_map hd, hok])
  have hlen : done.length = m := by simpa using hl
  have hsub : ∀ a ∈ srtS done, a ∈ words := fun a ha => hp.mem_iff.mp (List.mem_append_left _ ((srtS_perm done).mem_iff.mp ha))
  have hnd : (srtS done).Nodup := (srtS_perm done).nodup_iff.mpr ((hp.nodup_iff.mpr words_nd).sublist (List.sublist_append_left _ _))
  refine ⟨srtS done, c', ?_, by rw [(srtS_perm done).length_eq]; exact hlen, ⟨fun w hw => words_w w (hsub w hw), ?_⟩, hc'⟩
  · have e : evF law_labels_c0 ([some (.imm (.han p.length)), some (.imm (.int (m : Nat))), some (.own (words.map D.str)), none], p ++ c :: r) = some (done.map D.str, ([some (.imm (.han p.length)), some (.imm (.int (m : Nat))), some (.own (left.map D.str)), none], p ++ c' :: r)) := e
    have e0 : ([D.str [97], .str [98], .str [99, 111, 115, 116], .str [102, 97, 114], .str [108, 101, 118, 101, 108], .str [110, 101, 97, 114], .str [115, 97, 102, 101], .str [116], .str [119, 105, 100, 116, 104], .str [122, 122, 122, 122, 122, 122, 122, 122]] : List D) = words.map D.str := rfl
    have ok : okLen (words.map D.str) = true := rfl
    have okp : (words.map D.str).all D.plain = true := rfl
    unfold m_law_labels ir_law_labels
    simp only [EV0, EV1, EV2, EV3, EV4, EV5, EV6, EV7, EV8, EV9, EV10, EV11, EV12, EV13, EV14, EV15, EV16, Option.bind_some, Option.bind_none, Option.map_some, Option.map_none, List.getElem?_cons_zero, List.getElem?_cons_succ, List.set_cons_zero, List.set_cons_succ, List.map_cons, List.map_nil, List.length_cons, List.length_nil, List.cons_append, List.nil_append, Bool.and_true, Bool.true_and, Bool.and_false, Bool.false_and, List.all_cons, List.all_nil, List.replicate, Bool.not_true, Bool.not_false, Bool.false_eq_true, if_true, if_false, ↓reduceIte, decide_true, decide_false, Nat.zero_add, Nat.reduceAdd, Nat.reduceSub, dd_lnbor, dd_lnown, dd_lnbrw, e0, ok, okp, e, sorted_strs (show done.length < 64 by omega)]
  · have h1 := srtS_le done
    rw [List.nodup_iff_pairwise_ne] at hnd
    have h3 := List.Pairwise.and_mem.mp (h1.and hnd)
    exact h3.imp fun ⟨ha, hb, h, hne⟩ => words_lt _ (hsub _ ha) _ (hsub _ hb) h hne
end KK
set_option Elab.async false
set_option linter.all false
set_option maxRecDepth 100000
set_option maxHeartbeats 1000000
/-! P4: rows, books -/
namespace KK
open PySem DE
theorem rgDs_nat {m : Nat} (h : m ≤ 1000000) : rgDs (m : Nat) = some (enI (List.range m)) := by
  unfold rgDs
  rw [if_pos (by omega), Int.toNat_natCast, rng_map]
  rfl
theorem enI_len (o : List Nat) : (enI o).length = o.length := by simp [enI]
theorem blt_of {n : Nat} (h : n < 16777216) : Nat.blt n 16777216 = true := Nat.ble_eq_true_of_le h
theorem rows_b1_eq {c : MO} (hS : Purse c) (p r : Store) (m : Nat) (hm : m ≤ 8) (a b : D) (o4 : Option DV) : ∃ (H : List Nat) (o4' : Option DV) (c' : MO), forL (evG (.nm 4)) (evSs law_rows_b1) ((List.range m).map fun k => D.int (k : Nat)) ([some (.imm (.han p.length)), some (.imm (.int (m : Nat))), some (.imm a), some (.imm b), o4, none, none, some (.own (enI (List.range m))), some (.own []), none, none], p ++ c :: r) = some (.nx, ([some (.imm (.han p.length)), some (.imm (.int (m : Nat))), some (.imm a), some (.imm b), o4', none, none, some (.own []), some (.own (enI H)), none, none], p ++ c' :: r)) ∧ H.Perm (List.range m) ∧ Purse c' := by
  obtain ⟨z', e, done, left, o4', c', rfl, hp, hl, hc'⟩ := for_acc (g := .nm 4) (b := law_rows_b1) (List.range m) (fun k => D.int (k : Nat)) (fun n z => ∃ (done left : List Nat) (o4 : Option DV) (c' : MO), z = ([some (.imm (.han p.length)), some (.imm (.int (m : Nat))), some (.imm a), some (.imm b), o4, none, none, some (.own (enI left)), some (.own (enI done)), none, none], p ++ c' :: r) ∧ (done ++ left).Perm (List.range m) ∧ done.length = n ∧ Purse c') (z := ([some (.imm (.han p.length)), some (.imm (.int (m : Nat))), some (.imm a), some (.imm b), o4, none, none, some (.own (enI (List.range m))), some (.own []), none, none], p ++ c :: r))
    ⟨[], List.range m, o4, c, rfl, .refl _, rfl, hS⟩ (fun n k z hk hJ => by
      obtain ⟨done, left, o4, c', rfl, hp, hl, hc'⟩ := hJ
      have hk1 : n < m := by
        have := (List.getElem?_eq_some_iff.mp hk).1
        simpa using this
      have hlen : done.length + left.length = m := by simpa using hp.length_eq
      obtain ⟨d, c2, e, hd, hc2⟩ := drawN_eq hc' p r left.length (by omega) (by omega)
      have hpop : oPop (enI left) [.int (d : Nat)] = some (.int (left[d] : Nat), enI (left.eraseIdx d)) := pop_map (f := fun k => D.int ((k : Nat) : Int)) hd
      refine ⟨_, ([some (.imm (.han p.length)), some (.imm (.int (m : Nat))), some (.imm a), some (.imm b), some (.imm (.int (k : Nat))), none, none, some (.own (enI (left.eraseIdx d))), some (.own (enI (done ++ [left[d]]))), none, none], p ++ c2 :: r), rfl, .inl ?_, done ++ [left[d]], left.eraseIdx d, _, c2, rfl, (pop_perm hd).trans hp, by simp [hl], hc2⟩
      have hok : okLen (enI (left.eraseIdx d)) = true := okLen_of (by rw [enI_len, List.length_eraseIdx_of_lt hd]; omega)
      have hap : enI done ++ [D.int (left[d] : Nat)] = enI (done ++ [left[d]]) := by simp [enI]
      unfold law_rows_b1
      simp only [EV0, EV1, EV2, EV3, EV4, EV5, EV6, EV7, EV8, EV9, EV10, EV11, EV12, EV13, EV14, EV15, EV16, Option.bind_some, Option.bind_none, Option.map_some, Option.map_none, List.getElem?_cons_zero, List.getElem?_cons_succ, List.set_cons_zero, List.set_cons_succ, List.map_cons, List.map_nil, List.length_cons, List.length_nil, List.cons_append, List.nil_append, Bool.and_true, Bool.true_and, Bool.and_false, Bool.false_and, List.all_cons, List.all_nil, List.replicate, Bool.not_true, Bool.not_false, Bool.false_eq_true, if_true, if_false, ↓reduceIte, decide_true, decide_false, Nat.zero_add, Nat.reduceAdd, Nat.reduceSub, dd_lnbor, dd_lnown, dd_lnbrw, enI_len, e, hpop, hok, blt_of (show done.length < 16777216 by omega), hap])
  rw [List.length_range] at hl
  have hlen : done.length + left.length = m := by simpa using hp.length_eq
  have : left = [] := List.eq_nil_of_length_eq_zero (by omega)
  subst this
  exact ⟨done, o4', c', e, by simpa using hp, hc'⟩
theorem rows_eq {c : MO} (hS : Purse c) (p r : Store) (m most wrong : Nat) (hm : m ≤ 8) (hmo : most ≤ 100) (hw : 0 < wrong) (hw2 : wrong < 1000) : ∃ (R : List (List Nat)) (c' : MO), m_law_rows [.han p.length, .int (m : Nat), .int (most : Nat), .int (wrong : Nat)] (p ++ c :: r) = some (.lst (R.map D.str), p ++ c' :: r) ∧ R.length ≤ most ∧ (∀ row ∈ R, Row m row) ∧ Purse c' := by
  obtain ⟨H, o4, c1, e1, hp, hc1⟩ := rows_b1_eq hS p r m hm (.int (most : Nat)) (.int (wrong : Nat)) none
  obtain ⟨d, c2, e2, hd, hc2⟩ := drawN_eq hc1 p r (most + 1) (by omega) (by omega)
  have hH : ∀ k ∈ H, k < m := fun k hk => by simpa using hp.mem_iff.mp hk
  have hHl : H.length = m := by simpa using hp.length_eq
  obtain ⟨z', e3, R, o6, o8, o9, o10, c3, rfl, h8, hR, hr, hc3⟩ := for_acc (g := .nm 6) (b := law_rows_b0) (List.range d) (fun k => D.int (k : Nat)) (fun n z => ∃ (R : List (List Nat)) (o6 o8 o9 o10 : Option DV) (c' : MO), z = ([some (.imm (.han p.length)), some (.imm (.int (m : Nat))), some (.imm (.int (most : Nat))), some (.imm (.int (wrong : Nat))), o4, some (.own (R.map D.str)), o6, some (.own []), o8, o9, o10], p ++ c' :: r) ∧ (o8 = some (.own (enI H)) ∨ o8 = some (.imm (.lst (enI H)))) ∧ R.length = n ∧ (∀ row ∈ R, Row m row) ∧ Purse c')
    (z := ([some (.imm (.han p.length)), some (.imm (.int (m : Nat))), some (.imm (.int (most : Nat))), some (.imm (.int (wrong : Nat))), o4, some (.own []), none, some (.own []), some (.own (enI H)), none, none], p ++ c2 :: r))
    ⟨[], none, _, none, none, c2, rfl, .inl rfl, rfl, fun _ h => (by cases h), hc2⟩ (fun n k z hk hJ => by
      obtain ⟨R, o6, o8, o9, o10, c', rfl, h8, hR, hr, hc'⟩ := hJ
      have hk1 : n < d := by
        have := (List.getElem?_eq_some_iff.mp hk).1
        simpa using this
      obtain ⟨s, c4, e4, hs, hc4⟩ := signs_eq hc' p r m (by omega)
      obtain ⟨d5, c5, e5, hd5, hc5⟩ := drawN_eq hc4 p r wrong hw hw2
      have hh := holds_lst s H (p ++ c5 :: r) (fun k hk => by rw [hs.1]; exact hH k hk) (by omega)
      have hf := flipped_eq s (p ++ c5 :: r) hs.2 (by rw [hs.1]; omega)
      let s' := if hold s H || !decide ((0 : Int) < (d5 : Nat)) then s else s.map flip1
      have hs' : Row m s' := by
        show Row m (if _ then s else s.map flip1)
        split
        · exact hs
        · exact hs.flip
      refine ⟨_, ([some (.imm (.han p.length)), some (.imm (.int (m : Nat))), some (.imm (.int (most : Nat))), some (.imm (.int (wrong : Nat))), o4, some (.own ((R ++ [s']).map D.str)), some (.imm (.int (k : Nat))), some (.own []), some (.imm (.lst (enI H))), some (.imm (.str s)), some (.imm (.bl (decide ((0 : Int) < (d5 : Nat)))))], p ++ c5 :: r), rfl, .inl ?_, R ++ [s'], _, _, _, _, c5, rfl, .inr rfl, by simp [hR], fun row hrow => ?_, hc5⟩
      · have hap : R.map D.str ++ [D.str s'] = (R ++ [s']).map D.str := by simp
        unfold law_rows_b0
        rw [← hap]
        have hb := blt_of (show R.length < 16777216 by omega)
        rcases h8 with rfl | rfl
        · cases hq : hold s H with
          | true => simp only [EV0, EV1, EV2, EV3, EV4, EV5, EV6, EV7, EV8, EV9, EV10, EV11, EV12, EV13, EV14, EV15, EV16, Option.bind_some, Option.bind_none, Option.map_some, Option.map_none, List.getElem?_cons_zero, List.getElem?_cons_succ, List.set_cons_zero, List.set_cons_succ, List.map_cons, List.map_nil, List.length_cons, List.length_nil, List.cons_append, List.nil_append, Bool.and_true, Bool.true_and, Bool.and_false, Bool.false_and, List.all_cons, List.all_nil, List.replicate, Bool.not_true, Bool.not_false, Bool.false_eq_true, if_true, if_false, ↓reduceIte, decide_true, decide_false, Nat.zero_add, Nat.reduceAdd, Nat.reduceSub, dd_lnbor, dd_lnown, dd_lnbrw, e4, e5, hh, hq, List.length_map, hb, s', Bool.true_or]
          | false =>
            cases hq2 : decide ((0 : Int) < (d5 : Nat)) with
            | true => simp only [EV0, EV1, EV2, EV3, EV4, EV5, EV6, EV7, EV8, EV9, EV10, EV11, EV12, EV13, EV14, EV15, EV16, Option.bind_some, Option.bind_none, Option.map_some, Option.map_none, List.getElem?_cons_zero, List.getElem?_cons_succ, List.set_cons_zero, List.set_cons_succ, List.map_cons, List.map_nil, List.length_cons, List.length_nil, List.cons_append, List.nil_append, Bool.and_true, Bool.true_and, Bool.and_false, Bool.false_and, List.all_cons, List.all_nil, List.replicate, Bool.not_true, Bool.not_false, Bool.false_eq_true, if_true, if_false, ↓reduceIte, decide_true, decide_false, Nat.zero_add, Nat.reduceAdd, Nat.reduceSub, dd_lnbor, dd_lnown, dd_lnbrw, e4, e5, hh, hf, hq, hq2, List.length_map, hb, s', Bool.or_self]
            | false => simp only [EV0, EV1, EV2, EV3, EV4, EV5, EV6, EV7, EV8, EV9, EV10, EV11, EV12, EV13, EV14, EV15, EV16, Option.bind_some, Option.bind_none, Option.map_some, Option.map_none, List.getElem?_cons_zero, List.getElem?_cons_succ, List.set_cons_zero, List.set_cons_succ, List.map_cons, List.map_nil, List.length_cons, List.length_nil, List.cons_append, List.nil_append, Bool.and_true, Bool.true_and, Bool.and_false, Bool.false_and, List.all_cons, List.all_nil, List.replicate, Bool.not_true, Bool.not_false, Bool.false_eq_true, if_true, if_false, ↓reduceIte, decide_true, decide_false, Nat.zero_add, Nat.reduceAdd, Nat.reduceSub, dd_lnbor, dd_lnown, dd_lnbrw, e4, e5, hh, hf, hq, hq2, List.length_map, hb, s', Bool.or_true]
        · cases hq : hold s H with
          | true => simp only [EV0, EV1, EV2, EV3, EV4, EV5, EV6, EV7, EV8, EV9, EV10, EV11, EV12, EV13, EV14, EV15, EV16, Option.bind_some, Option.bind_none, Option.map_some, Option.map_none, List.getElem?_cons_zero, List.getElem?_cons_succ, List.set_cons_zero, List.set_cons_succ, List.map_cons, List.map_nil, List.length_cons, List.length_nil, List.cons_append, List.nil_append, Bool.and_true, Bool.true_and, Bool.and_false, Bool.false_and, List.all_cons, List.all_nil, List.replicate, Bool.not_true, Bool.not_false, Bool.false_eq_true, if_true, if_false, ↓reduceIte, decide_true, decide_false, Nat.zero_add, Nat.reduceAdd, Nat.reduceSub, dd_lnbor, dd_lnown, dd_lnbrw, e4, e5, hh, hq, List.length_map, hb, s', Bool.true_or]
          | false =>
            cases hq2 : decide ((0 : Int) < (d5 : Nat)) with
            | true => simp only [EV0, EV1, EV2, EV3, EV4, EV5, EV6, EV7, EV8, EV9, EV10, EV11, EV12, EV13, EV14, EV15, EV16, Option.bind_some, Option.bind_none, Option.map_some, Option.map_none, List.getElem?_cons_zero, List.getElem?_cons_succ, List.set_cons_zero, List.set_cons_succ, List.map_cons, List.map_nil, List.length_cons, List.length_nil, List.cons_append, List.nil_append, Bool.and_true, Bool.true_and, Bool.and_false, Bool.false_and, List.all_cons, List.all_nil, List.replicate, Bool.not_true, Bool.not_false, Bool.false_eq_true, if_true, if_false, ↓reduceIte, decide_true, decide_false, Nat.zero_add, Nat.reduceAdd, Nat.reduceSub, dd_lnbor, dd_lnown, dd_lnbrw, e4, e5, hh, hf, hq, hq2, List.length_map, hb, s', Bool.or_self]
            | false => simp only [EV0, EV1, EV2, EV3, EV4, EV5, EV6, EV7, EV8, EV9, EV10, EV11, EV12, EV13, EV14, EV15, EV16, Option.bind_some, Option.bind_none, Option.map_some, Option.map_none, List.getElem?_cons_zero, List.getElem?_cons_succ, List.set_cons_zero, List.set_cons_succ, List.map_cons, List.map_nil, List.length_cons, List.length_nil, List.cons_append, List.nil_append, Bool.and_true, Bool.true_and, Bool.and_false, Bool.false_and, List.all_cons, List.all_nil, List.replicate, Bool.not_true, Bool.not_false, Bool.false_eq_true, if_true, if_false, ↓reduceIte, decide_true, decide_false, Nat.zero_add, Nat.reduceAdd, Nat.reduceSub, dd_lnbor, dd_lnown, dd_lnbrw, e4, e5, hh, hf, hq, hq2, List.length_map, hb, s', Bool.or_true]
      · rcases List.mem_append.mp hrow with h | h
        · exact hr row h
        · rw [List.mem_singleton.mp h]; exact hs')
  rw [List.length_range] at hR
  refine ⟨R, c3, ?_, by omega, hr, hc3⟩
  have i1 := evI_rng (e := .var 1) (z := ([some (.imm (.han p.length)), some (.imm (.int (m : Nat))), some (.imm (.int (most : Nat))), some (.imm (.int (wrong : Nat))), none, none, none, some (.own (enI (List.range m))), some (.own []), none, none], p ++ c :: r)) (m := m) rfl (by omega)
  have e2 : m_law_draw [.han p.length, .int ((most : Nat) + 1)] (p ++ c1 :: r) = some (.int (d : Nat), p ++ c2 :: r) := e2
  have hr2 : rngL 0 ((d : Nat) : Int).toNat = (List.range d).map fun k => D.int (k : Nat) := by rw [Int.toNat_natCast, rng_map]
  unfold m_law_rows ir_law_rows
  simp only [EV0, EV1, EV2, EV3, EV4, EV5, EV6, EV7, EV8, EV9, EV10, EV11, EV12, EV13, EV14, EV15, EV16, Option.bind_some, Option.bind_none, Option.map_some, Option.map_none, List.getElem?_cons_zero, List.getElem?_cons_succ, List.set_cons_zero, List.set_cons_succ, List.map_cons, List.map_nil, List.length_cons, List.length_nil, List.cons_append, List.nil_append, Bool.and_true, Bool.true_and, Bool.and_false, Bool.false_and, List.all_cons, List.all_nil, List.replicate, Bool.not_true, Bool.not_false, Bool.false_eq_true, if_true, if_false, ↓reduceIte, decide_true, decide_false, Nat.zero_add, Nat.reduceAdd, Nat.reduceSub, dd_lnbor, dd_lnown, dd_lnbrw, rgDs_nat (show m ≤ 1000000 by omega), bigOk_of (show -1000000000 ≤ ((m : Nat) : Int) by omega) (show ((m : Nat) : Int) ≤ 1000000000 by omega), show rngL 0 ((m : Nat) : Int).toNat = (List.range m).map fun k => D.int (k : Nat) by rw [Int.toNat_natCast, rng_map], e1, e2, bigOk_of (show -1000000000 ≤ ((d : Nat) : Int) by omega) (show ((d : Nat) : Int) ≤ 1000000000 by omega), hr2, e3]
end KK
set_option Elab.async false
set_option linter.all false
set_option maxRecDepth 100000
set_option maxHeartbeats 1000000
/-! P5: texts of books, and books -/
namespace KK
open PySem DE
/-! ### join, split -/
theorem joinL_len (a : List Nat) : ∀ l : List (List Nat), (TL.joinL a l).length ≤ (l.map (·.length)).sum + l.length * a.length
  | [] => by simp [TL.joinL]
  | [p] => by simp [TL.joinL]
  | p :: q :: r => by
    have := joinL_len a (q :: r)
    show (p ++ (a ++ TL.joinL a (q :: r))).length ≤ _
    rw [List.length_append, List.length_append, List.map_cons, List.sum_cons, List.length_cons, Nat.succ_mul]
    omega
theorem sum_le {B : Nat} : ∀ {l : List (List Nat)}, (∀ w ∈ l, w.length ≤ B) → (l.map (·.length)).sum ≤ l.length * B
  | [], _ => by simp
  | w :: l, h => by
    have h1 := h w (List.mem_cons_self ..)
    have h2 := sum_le fun v hv => h v (List.mem_cons_of_mem _ hv)
    rw [List.map_cons, List.sum_cons, List.length_cons, Nat.succ_mul]
    omega
theorem join_strs {a : List Nat} {l : List (List Nat)} {B : Nat} (h : ∀ w ∈ l, w.length ≤ B) (hl : l.length * B + l.length * a.length ≤ 16777216) : joinD (.str a) (.lst (l.map D.str)) = some (.str (TL.joinL a l)) := by
  have h1 := joinL_len a l
  have h2 := sum_le h
  unfold joinD
  simp only [strsD_map, Option.bind_some]
  rw [if_pos]
  rw [okN_of (by omega), okN_of (by omega)]
  rfl
theorem join_strsT {a : List Nat} {l : List (List Nat)} {B : Nat} (h : ∀ w ∈ l, w.length ≤ B) (hl : l.length * B + l.length * a.length ≤ 16777216) : joinD (.str a) (.tup (l.map D.str)) = some (.str (TL.joinL a l)) := by
  have h1 := joinL_len a l
  have h2 := sum_le h
  unfold joinD
  simp only [strsD_map, Option.bind_some]
  rw [if_pos]
  rw [okN_of (by omega), okN_of (by omega)]
  rfl
theorem split_eq {a : List Nat} {c : Nat} {ps : List (List Nat)} (h : TL.spl [c] 0 [] a = ps) (hc : c < 256) (ha : a.length ≤ 1000000) (hp : ∀ p ∈ ps, p.length ≤ 1000000) (hl : ps.length ≤ 1000000) : splitD (.str a) (.str [c]) = some (.lst (ps.map D.str)) := by
  have e1 : ([c] != ([] : List Nat)) = true := rfl
  have e2 : [c].all (· < 256) = true := by simp [hc]
  have e3 : okPieces ps = true := by
    unfold okPieces
    rw [List.all_eq_true]
    exact fun p h => okN_of (by have := hp p h; omega)
  unfold splitD
  simp only [h, e1, e2, e3, okN_of (show a.length + 2 ≤ 16777216 by omega), okN_of (show ps.length ≤ 16777216 by omega), Bool.and_self, if_true]
/-! ### names -/
def LET : List Nat := [97, 98, 99, 100, 101, 102, 103, 104, 105, 106, 107, 108, 109, 110, 111, 112, 113, 114, 115, 116, 117, 118, 119, 120, 121, 122]
theorem let_iff (c : Nat) : decide (c ∈ LET) = decide (97 ≤ c ∧ c ≤ 122) := by
  unfold LET
  rw [decide_eq_decide]
  simp only [List.mem_cons, List.not_mem_nil, or_false]
  omega
theorem is_name_eq (w : List Nat) (S : Store) (h : w.length ≤ 1000000) : m_is_name [.str w] S = some (.bl (isWord w), S) := by
  have hc : evF is_name_c0 ([some (.imm (.str w)), none], S) = some (w.map (fun c => D.bl (decide (97 ≤ c ∧ c ≤ 122))), ([some (.imm (.str w)), none], S)) := by
    unfold is_name_c0
    refine comp_map w (fun c => D.str [c]) _ rfl rfl (by omega) fun c _ => ⟨?_, rfl⟩
    have : inD (.str [c]) (.str LET) = some (.bl (decide (97 ≤ c ∧ c ≤ 122))) := by rw [← let_iff]; rfl
    unfold LET at this
    simp only [EV0, EV1, EV2, EV3, EV4, EV5, EV6, EV7, EV8, EV9, EV10, EV11, EV12, EV13, EV14, EV15, EV16, Option.bind_some, Option.bind_none, Option.map_some, Option.map_none, List.getElem?_cons_zero, List.getElem?_cons_succ, List.set_cons_zero, List.set_cons_succ, List.map_cons, List.map_nil, List.length_cons, List.length_nil, List.cons_append, List.nil_append, Bool.and_true, Bool.true_and, Bool.and_false, Bool.false_and, List.all_cons, List.all_nil, List.replicate, Bool.not_true, Bool.not_false, Bool.false_eq_true, if_true, if_false, ↓reduceIte, decide_true, decide_false, Nat.zero_add, Nat.reduceAdd, Nat.reduceSub, dd_lnbor, dd_lnown, dd_lnbrw, this]
  unfold m_is_name ir_is_name isWord
  by_cases h1 : (1 : Int) ≤ (w.length : Nat)
  · have g1 : 1 ≤ w.length := by omega
    by_cases h2 : ((w.length : Nat) : Int) ≤ 8
    · have g2 : w.length ≤ 8 := by omega
      simp only [EV0, EV1, EV2, EV3, EV4, EV5, EV6, EV7, EV8, EV9, EV10, EV11, EV12, EV13, EV14, EV15, EV16, Option.bind_some, Option.bind_none, Option.map_some, Option.map_none, List.getElem?_cons_zero, List.getElem?_cons_succ, List.set_cons_zero, List.set_cons_succ, List.map_cons, List.map_nil, List.length_cons, List.length_nil, List.cons_append, List.nil_append, Bool.and_true, Bool.true_and, Bool.and_false, Bool.false_and, List.all_cons, List.all_nil, List.replicate, Bool.not_true, Bool.not_false, Bool.false_eq_true, if_true, if_false, ↓reduceIte, decide_true, decide_false, Nat.zero_add, Nat.reduceAdd, Nat.reduceSub, dd_lnbor, dd_lnown, dd_lnbrw, chn_if, h1, h2, g1, g2, decide_true, hc, allD_f]
    · have g2 : ¬ w.length ≤ 8 := by omega
      simp only [EV0, EV1, EV2, EV3, EV4, EV5, EV6, EV7, EV8, EV9, EV10, EV11, EV12, EV13, EV14, EV15, EV16, Option.bind_some, Option.bind_none, Option.map_some, Option.map_none, List.getElem?_cons_zero, List.getElem?_cons_succ, List.set_cons_zero, List.set_cons_succ, List.map_cons, List.map_nil, List.length_cons, List.length_nil, List.cons_append, List.nil_append, Bool.and_true, Bool.true_and, Bool.and_false, Bool.false_and, List.all_cons, List.all_nil, List.replicate, Bool.not_true, Bool.not_false, Bool.false_eq_true, if_true, if_false, ↓reduceIte, decide_true, decide_false, Nat.zero_add, Nat.reduceAdd, Nat.reduceSub, dd_lnbor, dd_lnown, dd_lnbrw, chn_if, h1, h2, g1, g2, decide_true, decide_false]
  · have g1 : ¬ 1 ≤ w.length := by omega
    simp only [EV0, EV1, EV2, EV3, EV4, EV5, EV6, EV7, EV8, EV9, EV10, EV11, EV12, EV13, EV14, EV15, EV16, Option.bind_some, Option.bind_none, Option.map_some, Option.map_none, List.getElem?_cons_zero, List.getElem?_cons_succ, List.set_cons_zero, List.set_cons_succ, List.map_cons, List.map_nil, List.length_cons, List.length_nil, List.cons_append, List.nil_append, Bool.and_true, Bool.true_and, Bool.and_false, Bool.false_and, List.all_cons, List.all_nil, List.replicate, Bool.not_true, Bool.not_false, Bool.false_eq_true, if_true, if_false, ↓reduceIte, decide_true, decide_false, Nat.zero_add, Nat.reduceAdd, Nat.reduceSub, dd_lnbor, dd_lnown, dd_lnbrw, chn_if, h1, g1, decide_true, decide_false]
theorem zipT_map {α : Type} {f : α → D} : ∀ (a b : List α), zipT (a.map f) (b.map f) = (a.zip b).map fun p => D.tup [f p.1, f p.2]
  | [], _ => by simp [zipT]
  | x :: a, [] => by simp [zipT]
  | x :: a, y :: b => by
    have := zipT_map (f := f) a b
    simp only [List.map_cons, zipT, List.zip_cons_cons, this]
theorem ascending_eq (L : List (List Nat)) (S : Store) (h : L.length ≤ 1000000) : m_are_ascending [.lst (L.map D.str)] S = some (.bl ((L.zip (L.drop 1)).all fun p => decide (p.1 < p.2)), S) := by
  have hcut : slD (.lst (L.map D.str)) (some 1) none = some (.lst ((L.drop 1).map D.str)) := by
    show some (D.lst (cutL (L.map D.str) (some ((1 : Nat) : Int)) none)) = _
    rw [cut_drop, List.map_drop]
  have hc : evF are_ascending_c0 ([some (.imm (.lst (L.map D.str))), none, none], S) = some ((L.zip (L.drop 1)).map (fun p => D.bl (decide (p.1 < p.2))), ([some (.imm (.lst (L.map D.str))), none, none], S)) := by
    unfold are_ascending_c0
    have := comp_two (it := .zip (.var 0) (.slc slD (.var 0) (.yes (.cst (.int 1))) .no)) (t := .no) (e := .cmp .Lt ltD (.var 1) (.var 2)) (x := "one") (y := "later") (i := 1) (j := 2) (ρ := [some (.imm (.lst (L.map D.str))), none, none]) (S := S) (L.zip (L.drop 1)) (fun p => D.str p.1) (fun p => D.str p.2) (fun _ => true) (fun p => D.bl (decide (p.1 < p.2))) (by simp only [EV0, EV1, EV2, EV3, EV4, EV5, EV6, EV7, EV8, EV9, EV10, EV11, EV12, EV13, EV14, EV15, EV16, Option.bind_some, Option.bind_none, Option.map_some, Option.map_none, List.getElem?_cons_zero, List.getElem?_cons_succ, List.set_cons_zero, List.set_cons_succ, List.map_cons, List.map_nil, List.length_cons, List.length_nil, List.cons_append, List.nil_append, Bool.and_true, Bool.true_and, Bool.and_false, Bool.false_and, List.all_cons, List.all_nil, List.replicate, Bool.not_true, Bool.not_false, Bool.false_eq_true, if_true, if_false, ↓reduceIte, decide_true, decide_false, Nat.zero_add, Nat.reduceAdd, Nat.reduceSub, dd_lnbor, dd_lnown, dd_lnbrw, hcut, zipT_map]) rfl (by omega) (by simp; omega) fun p _ => ⟨rfl, fun _ => ⟨rfl, rfl⟩⟩
    rwa [List.filter_eq_self.mpr (fun _ _ => rfl)] at this
  unfold m_are_ascending ir_are_ascending
  simp only [EV0, EV1, EV2, EV3, EV4, EV5, EV6, EV7, EV8, EV9, EV10, EV11, EV12, EV13, EV14, EV15, EV16, Option.bind_some, Option.bind_none, Option.map_some, Option.map_none, List.getElem?_cons_zero, List.getElem?_cons_succ, List.set_cons_zero, List.set_cons_succ, List.map_cons, List.map_nil, List.length_cons, List.length_nil, List.cons_append, List.nil_append, Bool.and_true, Bool.true_and, Bool.and_false, Bool.false_and, List.all_cons, List.all_nil, List.replicate, Bool.not_true, Bool.not_false, Bool.false_eq_true, if_true, if_false, ↓reduceIte, decide_true, decide_false, Nat.zero_add, Nat.reduceAdd, Nat.reduceSub, dd_lnbor, dd_lnown, dd_lnbrw, hc, allD_f]
theorem asc_true : ∀ {L : List (List Nat)}, L.Pairwise (· < ·) → ((L.zip (L.drop 1)).all fun p => decide (p.1 < p.2)) = true
  | [], _ => rfl
  | [a], _ => rfl
  | a :: b :: l, h => by
    have h2 : ((b :: l).zip l).all (fun p => decide (p.1 < p.2)) = true := asc_true (L := b :: l) h.of_cons
    rw [List.pairwise_cons] at h
    show ((a, b) :: ((b :: l).zip l)).all _ = true
    rw [List.all_cons, h2]
    simp only [decide_eq_true (h.1 b (List.mem_cons_self ..)), Bool.and_self]
theorem are_names_eq (L : List (List Nat)) (S : Store) (hN : Names L) (h1 : 1 ≤ L.length) (h8 : L.length ≤ 8) : m_are_names [.lst (L.map D.str)] S = some (.bl true, S) := by
  have hc : evF are_names_c0 ([some (.imm (.lst (L.map D.str))), none], S) = some (L.map (fun w => D.bl (isWord w)), ([some (.imm (.lst (L.map D.str))), none], S)) := by
    unfold are_names_c0
    refine comp_map L D.str _ rfl rfl (by omega) fun w hw => ⟨?_, rfl⟩
    have := hN.w w hw
    have hl : w.length ≤ 1000000 := by
      simp only [isWord, Bool.and_eq_true, decide_eq_true_eq] at this; omega
    simp only [EV0, EV1, EV2, EV3, EV4, EV5, EV6, EV7, EV8, EV9, EV10, EV11, EV12, EV13, EV14, EV15, EV16, Option.bind_some, Option.bind_none, Option.map_some, Option.map_none, List.getElem?_cons_zero, List.getElem?_cons_succ, List.set_cons_zero, List.set_cons_succ, List.map_cons, List.map_nil, List.length_cons, List.length_nil, List.cons_append, List.nil_append, Bool.and_true, Bool.true_and, Bool.and_false, Bool.false_and, List.all_cons, List.all_nil, List.replicate, Bool.not_true, Bool.not_false, Bool.false_eq_true, if_true, if_false, ↓reduceIte, decide_true, decide_false, Nat.zero_add, Nat.reduceAdd, Nat.reduceSub, dd_lnbor, dd_lnown, dd_lnbrw, is_name_eq w S hl]
  have ha : L.all isWord = true := List.all_eq_true.mpr hN.w
  have ea := ascending_eq L S (by omega)
  rw [asc_true hN.asc] at ea
  have g1 : (1 : Int) ≤ (L.length : Nat) := by omega
  have g2 : ((L.length : Nat) : Int) ≤ 8 := by omega
  unfold m_are_names ir_are_names
  simp only [EV0, EV1, EV2, EV3, EV4, EV5, EV6, EV7, EV8, EV9, EV10, EV11, EV12, EV13, EV14, EV15, EV16, Option.bind_some, Option.bind_none, Option.map_some, Option.map_none, List.getElem?_cons_zero, List.getElem?_cons_succ, List.set_cons_zero, List.set_cons_succ, List.map_cons, List.map_nil, List.length_cons, List.length_nil, List.cons_append, List.nil_append, Bool.and_true, Bool.true_and, Bool.and_false, Bool.false_and, List.all_cons, List.all_nil, List.replicate, Bool.not_true, Bool.not_false, Bool.false_eq_true, if_true, if_false, ↓reduceIte, decide_true, decide_false, Nat.zero_add, Nat.reduceAdd, Nat.reduceSub, dd_lnbor, dd_lnown, dd_lnbrw, chn_if, List.length_map, g1, g2, decide_true, hc, allD_f, ha, and_if, ea]
/-! ### the text of a book -/
def tail (R : List (List Nat)) : List Nat := if R = [] then [] else 32 :: TL.joinL [32] R
def text (L R : List (List Nat)) : List Nat := TL.joinL [32] L ++ 58 :: tail R
theorem text_join (L R : List (List Nat)) : TL.joinL [32] ((TL.joinL [32] L ++ [58]) :: R) = text L R := by
  unfold text tail
  cases R with
  | nil => simp [TL.joinL]
  | cons r R =>
    show (TL.joinL [32] L ++ [58]) ++ ([32] ++ TL.joinL [32] (r :: R)) = _
    simp
theorem isWord_len {w : List Nat} (h : isWord w = true) : 1 ≤ w.length ∧ w.length ≤ 8 := by
  simp only [isWord, Bool.and_eq_true, decide_eq_true_eq] at h; omega
theorem isWord_let {w : List Nat} (h : isWord w = true) : ∀ c ∈ w, 97 ≤ c ∧ c ≤ 122 := by
  simp only [isWord, Bool.and_eq_true, List.all_eq_true, decide_eq_true_eq] at h
  exact h.2
theorem joinL_mem {a : List Nat} : ∀ {l : List (List Nat)} {x : Nat}, x ∈ TL.joinL a l → x ∈ a ∨ ∃ w ∈ l, x ∈ w
  | [], x, h => by cases h
  | [p], x, h => .inr ⟨p, List.mem_cons_self .., h⟩
  | p :: q :: r, x, h => by
    rcases List.mem_append.mp (show x ∈ p ++ (a ++ TL.joinL a (q :: r)) from h) with h | h
    · exact .inr ⟨p, List.mem_cons_self .., h⟩
    · rcases List.mem_append.mp h with h | h
      · exact .inl h
      · rcases joinL_mem h with h | ⟨w, hw, h⟩
        · exact .inl h
        · exact .inr ⟨w, List.mem_cons_of_mem _ hw, h⟩
theorem names_no {L : List (List Nat)} (hN : Names L) {x : Nat} (h : x ∈ TL.joinL [32] L) : x = 32 ∨ (97 ≤ x ∧ x ≤ 122) := by
  rcases joinL_mem h with h | ⟨w, hw, h⟩
  · exact .inl (List.mem_singleton.mp h)
  · exact .inr (isWord_let (hN.w w hw) x h)
theorem sgn_iff {c : Nat} (h : sgn c = true) : c = 43 ∨ c = 45 ∨ c = 46 := by
  unfold sgn at h
  simpa using h
theorem Row.mem {m : Nat} {s : List Nat} (h : Row m s) {c : Nat} (hc : c ∈ s) : c = 43 ∨ c = 45 ∨ c = 46 := sgn_iff (List.all_eq_true.mp h.2 c hc)
theorem rows_no {m : Nat} {R : List (List Nat)} (hR : ∀ r ∈ R, Row m r) {x : Nat} (h : x ∈ tail R) : x = 32 ∨ x = 43 ∨ x = 45 ∨ x = 46 := by
  unfold tail at h
  split at h
  · cases h
  · rcases List.mem_cons.mp h with h | h
    · exact .inl h
    · rcases joinL_mem h with h | ⟨w, hw, h⟩
      · exact .inl (List.mem_singleton.mp h)
      · exact .inr ((hR w hw).mem h)
theorem join_bound {l : List (List Nat)} (h : ∀ w ∈ l, w.length ≤ 8) (hl : l.length ≤ 100) : (TL.joinL [32] l).length ≤ 900 := by
  have h1 := joinL_len [32] l
  have h2 := sum_le h
  simp only [List.length_singleton, Nat.mul_one] at h1
  omega
structure Bk (L R : List (List Nat)) : Prop where
  n : Names L
  l1 : 1 ≤ L.length
  l8 : L.length ≤ 8
  r : ∀ r ∈ R, Row L.length r
  r20 : R.length ≤ 20
theorem Bk.lenL {L R : List (List Nat)} (h : Bk L R) : ∀ w ∈ L, w.length ≤ 8 := fun w hw => (isWord_len (h.n.w w hw)).2
theorem Bk.lenR {L R : List (List Nat)} (h : Bk L R) : ∀ w ∈ R, w.length ≤ 8 := fun w hw => by rw [(h.r w hw).1]; exact h.l8
theorem spelled_eq {L R : List (List Nat)} (h : Bk L R) (S : Store) : m_law_spelled [.lst (L.map D.str), .lst (R.map D.str)] S = some (.str (text L R), S) := by
  have l8 := h.l8
  have r20 := h.r20
  have hb := join_bound h.lenL (by omega)
  have h1 := join_strs (a := [32]) h.lenL (by simp; omega)
  have h2 : addD (.str (TL.joinL [32] L)) (.str [58]) = some (.str (TL.joinL [32] L ++ [58])) := by
    unfold addD
    simp only [okN_of (show (TL.joinL [32] L).length + [58].length ≤ 16777216 by simp; omega), if_true]
  have h3 : addD (.lst [.str (TL.joinL [32] L ++ [58])]) (.lst (R.map D.str)) = some (.lst (((TL.joinL [32] L ++ [58]) :: R).map D.str)) := by
    unfold addD
    simp only [okN_of (show [D.str (TL.joinL [32] L ++ [58])].length + (R.map D.str).length ≤ 16777216 by simp; omega), if_true]
    rfl
  have h4 := join_strs (a := [32]) (l := (TL.joinL [32] L ++ [58]) :: R) (B := 901) (fun w hw => by
    rcases List.mem_cons.mp hw with rfl | hw
    · simp; omega
    · have := h.lenR w hw; omega) (by simp; omega)
  rw [text_join, List.map_cons] at h4
  unfold m_law_spelled ir_law_spelled
  simp only [EV0, EV1, EV2, EV3, EV4, EV5, EV6, EV7, EV8, EV9, EV10, EV11, EV12, EV13, EV14, EV15, EV16, Option.bind_some, Option.bind_none, Option.map_some, Option.map_none, List.getElem?_cons_zero, List.getElem?_cons_succ, List.set_cons_zero, List.set_cons_succ, List.map_cons, List.map_nil, List.length_cons, List.length_nil, List.cons_append, List.nil_append, Bool.and_true, Bool.true_and, Bool.and_false, Bool.false_and, List.all_cons, List.all_nil, List.replicate, Bool.not_true, Bool.not_false, Bool.false_eq_true, if_true, if_false, ↓reduceIte, decide_true, decide_false, Nat.zero_add, Nat.reduceAdd, Nat.reduceSub, dd_lnbor, dd_lnown, dd_lnbrw, h1, h2, h3, h4]
theorem book_in_eq {L R : List (List Nat)} (h : Bk L R) (S : Store) : m_book_in [.str (text L R)] S = some (.tup [.tup (L.map D.str), .tup (R.map D.str)], S) := by
  have l1 := h.l1
  have l8 := h.l8
  have r20 := h.r20
  have hb := join_bound h.lenL (by omega)
  have hb2 := join_bound h.lenR (by omega)
  have ht : (tail R).length ≤ 901 := by unfold tail; split <;> simp; omega
  have hn58 : 58 ∉ TL.joinL [32] L := fun hx => by rcases names_no h.n hx with e | e <;> omega
  have ht58 : 58 ∉ tail R := fun hx => by rcases rows_no h.r hx with e | e | e | e <;> omega
  have hcnt : scountD (.str (text L R)) (.str [58]) = some (.int 1) := by
    show some (D.int ((text L R).count 58 : Nat)) = _
    unfold text
    rw [List.count_append, List.count_cons_self, List.count_eq_zero.mpr hn58, List.count_eq_zero.mpr ht58]
    rfl
  have hs1 : TL.spl [58] 0 [] (text L R) = [TL.joinL [32] L, tail R] := by
    unfold text
    have e1 := TL.spl_part1 (s := 58) (S := []) (p := TL.joinL [32] L) (rest := tail R) (acc := []) hn58
    have e2 := TL.spl_last1 (s := 58) (S := []) (p := tail R) (acc := []) ht58
    simp only [List.nil_append, List.singleton_append, List.cons_append] at e1 e2
    rw [e1, e2]
  have hlen : (text L R).length ≤ 2000 := by unfold text; simp; omega
  have hs1' := split_eq hs1 (by omega) (by omega) (fun p hp => by
    simp only [List.mem_cons, List.not_mem_nil, or_false] at hp
    rcases hp with rfl | rfl <;> omega) (by simp)
  have hs2 : TL.spl [32] 0 [] (TL.joinL [32] L) = L := TL.spl_join (by intro e; rw [e] at l1; simp at l1) fun w hw hx => by
    have := isWord_let (h.n.w w hw) 32 hx; omega
  have hs2' := split_eq hs2 (by omega) (by omega) (fun p hp => by have := h.lenL p hp; omega) (by omega)
  have han := are_names_eq L S h.n l1 l8
  have hc : evF book_in_c0 ([some (.imm (.str (text L R))), some (.imm (.lst (L.map D.str))), some (.imm (.lst (R.map D.str))), some (.imm (.str (TL.joinL [32] L))), some (.imm (.str (tail R))), none], S) = some (R.map (fun r => D.bl true), ([some (.imm (.str (text L R))), some (.imm (.lst (L.map D.str))), some (.imm (.lst (R.map D.str))), some (.imm (.str (TL.joinL [32] L))), some (.imm (.str (tail R))), none], S)) := by
    unfold book_in_c0
    refine comp_map R D.str _ rfl rfl (by omega) fun row hrow => ⟨?_, rfl⟩
    have h1 := h.r row hrow
    have := is_row_eq row (L.length : Nat) S (by rw [h1.1]; omega)
    rw [h1.1, h1.2] at this
    simp only [EV0, EV1, EV2, EV3, EV4, EV5, EV6, EV7, EV8, EV9, EV10, EV11, EV12, EV13, EV14, EV15, EV16, Option.bind_some, Option.bind_none, Option.map_some, Option.map_none, List.getElem?_cons_zero, List.getElem?_cons_succ, List.set_cons_zero, List.set_cons_succ, List.map_cons, List.map_nil, List.length_cons, List.length_nil, List.cons_append, List.nil_append, Bool.and_true, Bool.true_and, Bool.and_false, Bool.false_and, List.all_cons, List.all_nil, List.replicate, Bool.not_true, Bool.not_false, Bool.false_eq_true, if_true, if_false, ↓reduceIte, decide_true, decide_false, Nat.zero_add, Nat.reduceAdd, Nat.reduceSub, dd_lnbor, dd_lnown, dd_lnbrw, List.length_map, this, decide_true]
  have hall := allD_f R (fun _ => true)
  have hall2 : R.all (fun _ => true) = true := by simp
  rw [hall2] at hall
  have g20 : ¬ (20 : Int) < (R.length : Nat) := by omega
  unfold m_book_in ir_book_in
  by_cases hR : R = []
  · have ht0 : tail R = [] := by unfold tail; rw [if_pos hR]
    subst hR
    rw [ht0] at hs1' hc
    simp only [EV0, EV1, EV2, EV3, EV4, EV5, EV6, EV7, EV8, EV9, EV10, EV11, EV12, EV13, EV14, EV15, EV16, Option.bind_some, Option.bind_none, Option.map_some, Option.map_none, List.getElem?_cons_zero, List.getElem?_cons_succ, List.set_cons_zero, List.set_cons_succ, List.map_cons, List.map_nil, List.length_cons, List.length_nil, List.cons_append, List.nil_append, Bool.and_true, Bool.true_and, Bool.and_false, Bool.false_and, List.all_cons, List.all_nil, List.replicate, Bool.not_true, Bool.not_false, Bool.false_eq_true, if_true, if_false, ↓reduceIte, decide_true, decide_false, Nat.zero_add, Nat.reduceAdd, Nat.reduceSub, dd_lnbor, dd_lnown, dd_lnbrw, hcnt, hs1', decide_true, hs2', han, hc, hall, g20, decide_false]
    simp only [List.map_nil, EV0, EV1, EV2, EV3, EV4, EV5, EV6, EV7, EV8, EV9, EV10, EV11, EV12, EV13, EV14, EV15, EV16, Option.bind_some, Option.bind_none, Option.map_some, Option.map_none, List.getElem?_cons_zero, List.getElem?_cons_succ, List.set_cons_zero, List.set_cons_succ, List.map_cons, List.map_nil, List.length_cons, List.length_nil, List.cons_append, List.nil_append, Bool.and_true, Bool.true_and, Bool.and_false, Bool.false_and, List.all_cons, List.all_nil, List.replicate, Bool.not_true, Bool.not_false, Bool.false_eq_true, if_true, if_false, ↓reduceIte, decide_true, decide_false, Nat.zero_add, Nat.reduceAdd, Nat.reduceSub, dd_lnbor, dd_lnown, dd_lnbrw] at hc hall
    simp only [EV0, EV1, EV2, EV3, EV4, EV5, EV6, EV7, EV8, EV9, EV10, EV11, EV12, EV13, EV14, EV15, EV16, Option.bind_some, Option.bind_none, Option.map_some, Option.map_none, List.getElem?_cons_zero, List.getElem?_cons_succ, List.set_cons_zero, List.set_cons_succ, List.map_cons, List.map_nil, List.length_cons, List.length_nil, List.cons_append, List.nil_append, Bool.and_true, Bool.true_and, Bool.and_false, Bool.false_and, List.all_cons, List.all_nil, List.replicate, Bool.not_true, Bool.not_false, Bool.false_eq_true, if_true, if_false, ↓reduceIte, decide_true, decide_false, Nat.zero_add, Nat.reduceAdd, Nat.reduceSub, dd_lnbor, dd_lnown, dd_lnbrw, hc, hall, show ¬ (20 : Int) < ((0 : Nat) : Int) by omega, decide_false]
  · have ht1 : tail R = 32 :: TL.joinL [32] R := by unfold tail; rw [if_neg hR]
    rw [ht1] at hs1' hc
    have hs3 : TL.spl [32] 0 [] (TL.joinL [32] R) = R := TL.spl_join hR fun w hw hx => by
      rcases (h.r w hw).mem hx with e | e | e <;> omega
    have hs3' := split_eq hs3 (by omega) (by omega) (fun p hp => by have := h.lenR p hp; omega) (by omega)
    have hix : ixD (.str (32 :: TL.joinL [32] R)) (.int 0) = some (.str [32]) := ix_row (r := 32 :: TL.joinL [32] R) (k := 0) (by simp)
    have hsl : slD (.str (32 :: TL.joinL [32] R)) (some 1) none = some (.str (TL.joinL [32] R)) := rfl
    have hne : decide (32 :: TL.joinL [32] R = []) = false := by simp
    simp only [EV0, EV1, EV2, EV3, EV4, EV5, EV6, EV7, EV8, EV9, EV10, EV11, EV12, EV13, EV14, EV15, EV16, Option.bind_some, Option.bind_none, Option.map_some, Option.map_none, List.getElem?_cons_zero, List.getElem?_cons_succ, List.set_cons_zero, List.set_cons_succ, List.map_cons, List.map_nil, List.length_cons, List.length_nil, List.cons_append, List.nil_append, Bool.and_true, Bool.true_and, Bool.and_false, Bool.false_and, List.all_cons, List.all_nil, List.replicate, Bool.not_true, Bool.not_false, Bool.false_eq_true, if_true, if_false, ↓reduceIte, decide_true, decide_false, Nat.zero_add, Nat.reduceAdd, Nat.reduceSub, dd_lnbor, dd_lnown, dd_lnbrw, hcnt, hs1', decide_true, hs2', han, hne, hix, hsl, hs3', List.length_map, g20, decide_false, hc, hall]
/-! ### the book as an object -/
def bookD (L R : List (List Nat)) : D := .ins 0 [(4, .str (text L R)), (5, .tup (L.map D.str)), (6, .tup (R.map D.str))]
theorem nohL_str {n : Nat} : ∀ L : List (List Nat), nohL n (L.map D.str) = true
  | [] => by simp [nohL]
  | a :: L => by simp [nohL, noh, nohL_str L]
theorem st_get {S : Store} {x : MO} : (S ++ [x])[S.length]? = some x := by simp
theorem st_set {S : Store} {x y : MO} : (S ++ [x]).set S.length y = S ++ [y] := by simp
theorem init_eq {L R : List (List Nat)} (h : Bk L R) (S : Store) : m_Book_init [.han S.length, .str (text L R)] (S ++ [.ins 0 []]) = some (.non, S ++ [.ins 0 [(4, .str (text L R)), (5, .tup (L.map D.str)), (6, .tup (R.map D.str))]]) := by
  have e := book_in_eq h (S ++ [.ins 0 []])
  have b0 : Nat.blt 0 900 = true := rfl
  have b1 : Nat.blt 1 900 = true := rfl
  have b2 : Nat.blt 2 900 = true := rfl
  unfold m_Book_init ir_Book_init
  simp only [EV0, EV1, EV2, EV3, EV4, EV5, EV6, EV7, EV8, EV9, EV10, EV11, EV12, EV13, EV14, EV15, EV16, Option.bind_some, Option.bind_none, Option.map_some, Option.map_none, List.getElem?_cons_zero, List.getElem?_cons_succ, List.set_cons_zero, List.set_cons_succ, List.map_cons, List.map_nil, List.length_cons, List.length_nil, List.cons_append, List.nil_append, Bool.and_true, Bool.true_and, Bool.and_false, Bool.false_and, List.all_cons, List.all_nil, List.replicate, Bool.not_true, Bool.not_false, Bool.false_eq_true, if_true, if_false, ↓reduceIte, decide_true, decide_false, Nat.zero_add, Nat.reduceAdd, Nat.reduceSub, dd_lnbor, dd_lnown, dd_lnbrw, e, isNonD, st_get, st_set, putD, b0, b1, b2]
  simp only [EV0, EV1, EV2, EV3, EV4, EV5, EV6, EV7, EV8, EV9, EV10, EV11, EV12, EV13, EV14, EV15, EV16, Option.bind_some, Option.bind_none, Option.map_some, Option.map_none, List.getElem?_cons_zero, List.getElem?_cons_succ, List.set_cons_zero, List.set_cons_succ, List.map_cons, List.map_nil, List.length_cons, List.length_nil, List.cons_append, List.nil_append, Bool.and_true, Bool.true_and, Bool.and_false, Bool.false_and, List.all_cons, List.all_nil, List.replicate, Bool.not_true, Bool.not_false, Bool.false_eq_true, if_true, if_false, ↓reduceIte, decide_true, decide_false, Nat.zero_add, Nat.reduceAdd, Nat.reduceSub, dd_lnbor, dd_lnown, dd_lnbrw, st_get, st_set, putD, b0, b1, b2, show (4 = 5) = False by simp, show (4 = 6) = False by simp, show (5 = 6) = False by simp]
theorem mk_book {L R : List (List Nat)} (h : Bk L R) (ρ : Rho) (S : Store) (hS : S.all (nohM S.length) = true) : mkB 0 1 m_Book_init ([.str (text L R)], (ρ, S)) = some (bookD L R, (ρ, S)) := by
  have e := init_eq h S
  have e2 : endMk S.length 0 (S ++ [.ins 0 [(4, .str (text L R)), (5, .tup (L.map D.str)), (6, .tup (R.map D.str))]]) = some (bookD L R, S) := by
    unfold endMk
    simp only [List.drop_left, List.take_left, hS, nohF, noh, nohL_str]
    rfl
  unfold mkB
  simp only [EV0, EV1, EV2, EV3, EV4, EV5, EV6, EV7, EV8, EV9, EV10, EV11, EV12, EV13, EV14, EV15, EV16, Option.bind_some, Option.bind_none, Option.map_some, Option.map_none, List.getElem?_cons_zero, List.getElem?_cons_succ, List.set_cons_zero, List.set_cons_succ, List.map_cons, List.map_nil, List.length_cons, List.length_nil, List.cons_append, List.nil_append, Bool.and_true, Bool.true_and, Bool.and_false, Bool.false_and, List.all_cons, List.all_nil, List.replicate, Bool.not_true, Bool.not_false, Bool.false_eq_true, if_true, if_false, ↓reduceIte, decide_true, decide_false, Nat.zero_add, Nat.reduceAdd, Nat.reduceSub, dd_lnbor, dd_lnown, dd_lnbrw, e]
  unfold mkB2
  simp only [e2, Option.map_some]
end KK
set_option Elab.async false
set_option linter.all false
set_option maxRecDepth 100000
set_option maxHeartbeats 1000000
/-! P6: all orders, those that fit -/
namespace KK
open PySem DE
def enT (o : List Nat) : D := .tup (enI o)
theorem dd_plT {o : List Nat} : (enT o).plain = true := rfl
theorem dd_rdT {z : Z} {o : List Nat} : rd z (enT o) = some (enT o) := rfl
theorem dd_lnT {z : Z} {o : List Nat} : lendD z (enT o) = some (enT o) := rfl
theorem dd_dvT {o : List Nat} : toDV (enT o) = .imm (enT o) := rfl
theorem dd_itT {o : List Nat} : itD (enT o) = some (enI o) := rfl
theorem dd_isT {o : List Nat} : itemsOf (enT o) = some (enI o) := rfl
theorem dd_tyT {o : List Nat} : isB "tuple" (enT o) = some true := rfl
theorem dd_lenT {o : List Nat} : lenD (enT o) = some (.int (o.length : Nat)) := by
  show some (D.int ((enI o).length : Nat)) = _
  rw [enI_len]
theorem dd_esT {z : Z} {o : List Nat} : escD (enT o) z = some (enT o, z) := rfl
theorem dd_tpT {o : List Nat} : tupleD (enT o) = some (enT o) := rfl
theorem dd_lsT {o : List Nat} : listD (enT o) = some (enI o) := rfl
theorem dd_plB {L R : List (List Nat)} : (bookD L R).plain = true := rfl
theorem dd_rdB {z : Z} {L R : List (List Nat)} : rd z (bookD L R) = some (bookD L R) := rfl
theorem dd_lnB {z : Z} {L R : List (List Nat)} : lendD z (bookD L R) = some (bookD L R) := rfl
theorem dd_dvB {L R : List (List Nat)} : toDV (bookD L R) = .imm (bookD L R) := rfl
theorem dd_icB {L R : List (List Nat)} : isC 0 (bookD L R) = some true := rfl
theorem dd_f4B {z : Z} {L R : List (List Nat)} : fldOf z 4 (bookD L R) = some (.str (text L R)) := rfl
theorem dd_f5B {z : Z} {L R : List (List Nat)} : fldOf z 5 (bookD L R) = some (.tup (L.map D.str)) := rfl
theorem dd_f6B {z : Z} {L R : List (List Nat)} : fldOf z 6 (bookD L R) = some (.tup (R.map D.str)) := rfl
/-- one rule more behind each -/
def grow (m : Nat) (o : List Nat) : List (List Nat) := ((List.range m).filter fun k => !decide (k ∈ o)).map fun k => o ++ [k]
def stepL (m : Nat) (L : List (List Nat)) : List (List Nat) := L.flatMap (grow m)
def begun (m : Nat) : Nat → List (List Nat)
  | 0 => [[]]
  | n + 1 => stepL m (begun m n)
def perms (m : Nat) : List (List Nat) := begun m m
theorem grow_len (m : Nat) (o : List Nat) : (grow m o).length ≤ m := by
  unfold grow
  rw [List.length_map]
  exact Nat.le_trans (List.length_filter_le _ _) (by simp)
theorem stepL_len (m : Nat) : ∀ L : List (List Nat), (stepL m L).length ≤ L.length * m
  | [] => by simp [stepL]
  | o :: L => by
    have h1 := grow_len m o
    have h2 := stepL_len m L
    unfold stepL at h2 ⊢
    rw [List.flatMap_cons, List.length_append, List.length_cons, Nat.succ_mul]
    omega
theorem begun_len (m : Nat) : ∀ n, (begun m n).length ≤ m ^ n
  | 0 => by simp [begun]
  | n + 1 => by
    have h := begun_len m n
    exact Nat.le_trans (stepL_len m _) (by rw [Nat.pow_succ]; exact Nat.mul_le_mul_right m h)
theorem mem_begun (m : Nat) : ∀ (n : Nat) (o : List Nat), o ∈ begun m n ↔ o.Nodup ∧ o.length = n ∧ ∀ k ∈ o, k < m
  | 0, o => by
    simp only [begun, List.mem_singleton]
    constructor
    · rintro rfl; simp
    · rintro ⟨_, h, _⟩; exact List.eq_nil_of_length_eq_zero h
  | n + 1, o => by
    simp only [begun, stepL, grow, List.mem_flatMap, List.mem_map, List.mem_filter, List.mem_range, Bool.not_eq_true', decide_eq_false_iff_not]
    constructor
    · rintro ⟨p, hp, k, ⟨hk, hkp⟩, rfl⟩
      obtain ⟨h1, h2, h3⟩ := (mem_begun m n p).mp hp
      refine ⟨?_, by simp [h2], fun j hj => ?_⟩
      · rw [List.nodup_append]
        exact ⟨h1, by simp, fun a ha b hb e => by
          rw [List.mem_singleton] at hb
          subst hb; subst e; exact hkp ha⟩
      · rcases List.mem_append.mp hj with h | h
        · exact h3 j h
        · rw [List.mem_singleton.mp h]; exact hk
    · rintro ⟨h1, h2, h3⟩
      have hne : o ≠ [] := by intro e; rw [e] at h2; simp at h2
      have e := List.dropLast_concat_getLast hne
      refine ⟨o.dropLast, (mem_begun m n _).mpr ⟨h1.sublist (List.dropLast_sublist _), by simp [h2], fun k hk => h3 k (List.dropLast_subset _ hk)⟩, o.getLast hne, ⟨h3 _ (List.getLast_mem hne), fun hm => ?_⟩, e⟩
      rw [← e, List.nodup_append] at h1
      exact h1.2.2 _ hm _ (List.mem_singleton_self _) rfl
theorem mem_perms {m : Nat} {o : List Nat} : o ∈ perms m ↔ o.Nodup ∧ o.length = m ∧ ∀ k ∈ o, k < m := mem_begun m m o
theorem mem_nat {k : Nat} {o : List Nat} : memD (.int (k : Nat)) (enI o) = decide (k ∈ o) := by
  unfold memD enI
  induction o with
  | nil => rfl
  | cons a o ih =>
    rw [List.map_cons, List.any_cons, ih]
    by_cases h : a = k
    · subst h; simp [eqB]
    · have h2 : ¬ k = a := fun q => h q.symm
      have h3 : ¬ ((a : Nat) : Int) = (k : Nat) := by omega
      simp [eqB, h2, h3]
theorem shp_int {i : Int} : shp (.int i) = true := dpt_int
theorem shps_enI (o : List Nat) : (enI o).all shp = true := dpts_int (fun k : Nat => (k : Int)) o
theorem in_tup {k : Nat} {o : List Nat} : inD (.int (k : Nat)) (enT o) = some (.bl (decide (k ∈ o))) := by
  unfold inD enT
  simp only [shp_int, shps_enI, mem_nat, Bool.and_self, if_true]
theorem in_lst {k : Nat} {o : List Nat} : inD (.int (k : Nat)) (.lst (enI o)) = some (.bl (decide (k ∈ o))) := by
  unfold inD
  simp only [shp_int, shps_enI, mem_nat, Bool.and_self, if_true]
theorem nin_tup {k : Nat} {o : List Nat} : ninD (.int (k : Nat)) (enT o) = some (.bl (!decide (k ∈ o))) := by
  unfold ninD; rw [in_tup]; rfl
theorem nin_lst {k : Nat} {o : List Nat} : ninD (.int (k : Nat)) (.lst (enI o)) = some (.bl (!decide (k ∈ o))) := by
  unfold ninD; rw [in_lst]; rfl
theorem add_tup1 {o : List Nat} {k : Nat} (h : o.length ≤ 1000) : addD (enT o) (.tup [.int (k : Nat)]) = some (enT (o ++ [k])) := by
  unfold addD enT
  simp only [okN_of (show (enI o).length + [D.int (k : Nat)].length ≤ 16777216 by rw [enI_len]; simp; omega), if_true]
  simp [enI]
theorem add_lst {a b : List D} (h : a.length + b.length ≤ 16777216) : addD (.lst a) (.lst b) = some (.lst (a ++ b)) := by
  unfold addD
  simp only [okN_of h, if_true]
end KK
set_option Elab.async false
set_option linter.all false
set_option maxRecDepth 100000
set_option maxHeartbeats 1000000
/-! P6b: all orders by the law's own making -/
namespace KK
open PySem DE
theorem law_all_eq (m : Nat) (S : Store) (hm : m ≤ 8) : m_law_all [.int (m : Nat)] S = some (.lst ((perms m).map enT), S) := by
  have pw : ∀ n, n ≤ m → m ^ n ≤ 16777216 := fun n hn => by
    rcases Nat.eq_zero_or_pos m with h0 | h0
    · subst h0
      obtain rfl : n = 0 := by omega
      decide
    · exact Nat.le_trans (Nat.pow_le_pow_right h0 hn) (Nat.le_trans (Nat.pow_le_pow_left hm m) (Nat.le_trans (Nat.pow_le_pow_right (by omega) hm) (by decide)))
  have hc : ∀ (o : List Nat) (o1 o2 o3 : Option DV), o.length ≤ 8 → evF law_all_c0 ([some (.imm (.int (m : Nat))), o1, o2, o3, some (.imm (enT o)), none], S) = some ((grow m o).map enT, ([some (.imm (.int (m : Nat))), o1, o2, o3, some (.imm (enT o)), none], S)) := by
    intro o o1 o2 o3 ho
    unfold law_all_c0
    have := comp_nm (it := .rg1 (.var 0)) (t := .yes (.cmp .NotIn ninD (.var 5) (.var 4))) (e := .bin .Add addD (.var 4) (.tup (.cons (.var 5) .nil))) (x := "_law_k") (i := 5) (ρ := [some (.imm (.int (m : Nat))), o1, o2, o3, some (.imm (enT o)), none]) (S := S) (List.range m) (fun k => D.int (k : Nat)) (fun k => !decide (k ∈ o)) (fun k => enT (o ++ [k])) (evI_rng rfl (by omega)) rfl (by simp; omega) (fun k hk => ⟨by simp only [EV0, EV1, EV2, EV3, EV4, EV5, EV6, EV7, EV8, EV9, EV10, EV11, EV12, EV13, EV14, EV15, EV16, Option.bind_some, Option.bind_none, Option.map_some, Option.map_none, List.getElem?_cons_zero, List.getElem?_cons_succ, List.set_cons_zero, List.set_cons_succ, List.map_cons, List.map_nil, List.length_cons, List.length_nil, List.cons_append, List.nil_append, Bool.and_true, Bool.true_and, Bool.and_false, Bool.false_and, List.all_cons, List.all_nil, List.replicate, Bool.not_true, Bool.not_false, Bool.false_eq_true, if_true, if_false, ↓reduceIte, decide_true, decide_false, Nat.zero_add, Nat.reduceAdd, Nat.reduceSub, dd_lnbor, dd_lnown, dd_lnbrw, dd_plT, dd_rdT, dd_lnT, dd_dvT, dd_itT, dd_isT, dd_tyT, dd_lenT, dd_esT, dd_tpT, dd_lsT, dd_plB, dd_rdB, dd_lnB, dd_dvB, dd_icB, dd_f4B, dd_f5B, dd_f6B, nin_tup], fun _ => ⟨by simp only [EV0, EV1, EV2, EV3, EV4, EV5, EV6, EV7, EV8, EV9, EV10, EV11, EV12, EV13, EV14, EV15, EV16, Option.bind_some, Option.bind_none, Option.map_some, Option.map_none, List.getElem?_cons_zero, List.getElem?_cons_succ, List.set_cons_zero, List.set_cons_succ, List.map_cons, List.map_nil, List.length_cons, List.length_nil, List.cons_append, List.nil_append, Bool.and_true, Bool.true_and, Bool.and_false, Bool.false_and, List.all_cons, List.all_nil, List.replicate, Bool.not_true, Bool.not_false, Bool.false_eq_true, if_true, if_false, ↓reduceIte, decide_true, decide_false, Nat.zero_add, Nat.reduceAdd, Nat.reduceSub, dd_lnbor, dd_lnown, dd_lnbrw, dd_plT, dd_rdT, dd_lnT, dd_dvT, dd_itT, dd_isT, dd_tyT, dd_lenT, dd_esT, dd_tpT, dd_lsT, dd_plB, dd_rdB, dd_lnB, dd_dvB, dd_icB, dd_f4B, dd_f5B, dd_f6B, add_tup1 (show o.length ≤ 1000 by omega)], rfl⟩⟩)
    rw [this]
    unfold grow
    rw [List.map_map]
    rfl
  have inner : ∀ (n : Nat) (o1 o2 o4 : Option DV), n < m → ∃ o4' : Option DV, forL (evG (.nm 4)) (evSs law_all_b0) ((begun m n).map enT) ([some (.imm (.int (m : Nat))), o1, o2, some (.imm (.lst [])), o4, none], S) = some (.nx, ([some (.imm (.int (m : Nat))), o1, o2, some (.imm (.lst ((begun m (n + 1)).map enT))), o4', none], S)) := by
    intro n o1 o2 o4 hn
    have hbound : ∀ k, k ≤ (begun m n).length → (stepL m ((begun m n).take k)).length ≤ 16777216 := fun k hk => by
      refine Nat.le_trans (stepL_len m _) (Nat.le_trans (Nat.mul_le_mul_right m (Nat.le_trans (by simp; omega) (begun_len m n))) ?_)
      rw [← Nat.pow_succ]
      exact pw (n + 1) hn
    obtain ⟨z', e, o4', rfl⟩ := for_acc (g := .nm 4) (b := law_all_b0) (begun m n) enT (fun k z => ∃ o4 : Option DV, z = ([some (.imm (.int (m : Nat))), o1, o2, some (.imm (.lst ((stepL m ((begun m n).take k)).map enT))), o4, none], S)) (z := ([some (.imm (.int (m : Nat))), o1, o2, some (.imm (.lst [])), o4, none], S)) ⟨o4, by simp [stepL]⟩ (fun k o z hk hz => by
      obtain ⟨o4, rfl⟩ := hz
      have hk1 := (List.getElem?_eq_some_iff.mp hk).1
      have hko := (List.getElem?_eq_some_iff.mp hk).2
      have ho := (mem_begun m n o).mp (List.mem_of_getElem? hk)
      have hs : stepL m ((begun m n).take (k + 1)) = stepL m ((begun m n).take k) ++ grow m o := by
        unfold stepL
        rw [List.take_succ_eq_append_getElem hk1, List.flatMap_append, hko]
        simp
      have hb := hbound (k + 1) (by omega)
      rw [hs, List.length_append] at hb
      refine ⟨_, ([some (.imm (.int (m : Nat))), o1, o2, some (.imm (.lst ((stepL m ((begun m n).take (k + 1))).map enT))), some (.imm (enT o)), none], S), rfl, .inl ?_, _, rfl⟩
      rw [hs, List.map_append]
      unfold law_all_b0
      simp only [EV0, EV1, EV2, EV3, EV4, EV5, EV6, EV7, EV8, EV9, EV10, EV11, EV12, EV13, EV14, EV15, EV16, Option.bind_some, Option.bind_none, Option.map_some, Option.map_none, List.getElem?_cons_zero, List.getElem?_cons_succ, List.set_cons_zero, List.set_cons_succ, List.map_cons, List.map_nil, List.length_cons, List.length_nil, List.cons_append, List.nil_append, Bool.and_true, Bool.true_and, Bool.and_false, Bool.false_and, List.all_cons, List.all_nil, List.replicate, Bool.not_true, Bool.not_false, Bool.false_eq_true, if_true, if_false, ↓reduceIte, decide_true, decide_false, Nat.zero_add, Nat.reduceAdd, Nat.reduceSub, dd_lnbor, dd_lnown, dd_lnbrw, dd_plT, dd_rdT, dd_lnT, dd_dvT, dd_itT, dd_isT, dd_tyT, dd_lenT, dd_esT, dd_tpT, dd_lsT, dd_plB, dd_rdB, dd_lnB, dd_dvB, dd_icB, dd_f4B, dd_f5B, dd_f6B, hc o _ _ _ (by omega), add_lst (a := (stepL m ((begun m n).take k)).map enT) (b := (grow m o).map enT) (by simp only [List.length_map]; omega)])
    refine ⟨o4', ?_⟩
    rw [e, List.take_length]
    rfl
  obtain ⟨z', e, o2, o3, o4, rfl⟩ := for_acc (g := .nm 2) (b := law_all_b1) (List.range m) (fun k => D.int (k : Nat)) (fun n z => ∃ o2 o3 o4 : Option DV, z = ([some (.imm (.int (m : Nat))), some (.imm (.lst ((begun m n).map enT))), o2, o3, o4, none], S)) (z := ([some (.imm (.int (m : Nat))), some (.imm (.lst [.tup []])), none, none, none, none], S)) ⟨none, none, none, rfl⟩ (fun n k z hk hz => by
    obtain ⟨o2, o3, o4, rfl⟩ := hz
    have hk1 : n < m := by
      have := (List.getElem?_eq_some_iff.mp hk).1
      simpa using this
    obtain ⟨o4', e⟩ := inner n (some (.imm (.lst ((begun m n).map enT)))) (some (.imm (.int (k : Nat)))) o4 hk1
    refine ⟨_, ([some (.imm (.int (m : Nat))), some (.imm (.lst ((begun m (n + 1)).map enT))), some (.imm (.int (k : Nat))), some (.imm (.lst ((begun m (n + 1)).map enT))), o4', none], S), rfl, .inl ?_, _, _, _, rfl⟩
    unfold law_all_b1
    simp only [EV0, EV1, EV2, EV3, EV4, EV5, EV6, EV7, EV8, EV9, EV10, EV11, EV12, EV13, EV14, EV15, EV16, Option.bind_some, Option.bind_none, Option.map_some, Option.map_none, List.getElem?_cons_zero, List.getElem?_cons_succ, List.set_cons_zero, List.set_cons_succ, List.map_cons, List.map_nil, List.length_cons, List.length_nil, List.cons_append, List.nil_append, Bool.and_true, Bool.true_and, Bool.and_false, Bool.false_and, List.all_cons, List.all_nil, List.replicate, Bool.not_true, Bool.not_false, Bool.false_eq_true, if_true, if_false, ↓reduceIte, decide_true, decide_false, Nat.zero_add, Nat.reduceAdd, Nat.reduceSub, dd_lnbor, dd_lnown, dd_lnbrw, dd_plT, dd_rdT, dd_lnT, dd_dvT, dd_itT, dd_isT, dd_tyT, dd_lenT, dd_esT, dd_tpT, dd_lsT, dd_plB, dd_rdB, dd_lnB, dd_dvB, dd_icB, dd_f4B, dd_f5B, dd_f6B, e])
  rw [List.length_range] at e
  unfold m_law_all ir_law_all
  have i1 := evI_rng (e := .var 0) (z := ([some (.imm (.int (m : Nat))), some (.imm (.lst [.tup []])), none, none, none, none], S)) (m := m) rfl (by omega)
  simp only [EV0, EV1, EV2, EV3, EV4, EV5, EV6, EV7, EV8, EV9, EV10, EV11, EV12, EV13, EV14, EV15, EV16, Option.bind_some, Option.bind_none, Option.map_some, Option.map_none, List.getElem?_cons_zero, List.getElem?_cons_succ, List.set_cons_zero, List.set_cons_succ, List.map_cons, List.map_nil, List.length_cons, List.length_nil, List.cons_append, List.nil_append, Bool.and_true, Bool.true_and, Bool.and_false, Bool.false_and, List.all_cons, List.all_nil, List.replicate, Bool.not_true, Bool.not_false, Bool.false_eq_true, if_true, if_false, ↓reduceIte, decide_true, decide_false, Nat.zero_add, Nat.reduceAdd, Nat.reduceSub, dd_lnbor, dd_lnown, dd_lnbrw, dd_plT, dd_rdT, dd_lnT, dd_dvT, dd_itT, dd_isT, dd_tyT, dd_lenT, dd_esT, dd_tpT, dd_lsT, dd_plB, dd_rdB, dd_lnB, dd_dvB, dd_icB, dd_f4B, dd_f5B, dd_f6B, bigOk_of (show -1000000000 ≤ ((m : Nat) : Int) by omega) (show ((m : Nat) : Int) ≤ 1000000000 by omega), show rngL 0 ((m : Nat) : Int).toNat = (List.range m).map fun k => D.int (k : Nat) by rw [Int.toNat_natCast, rng_map], e]
  rfl
end KK
set_option Elab.async false
set_option linter.all false
set_option maxRecDepth 100000
set_option maxHeartbeats 1000000
/-! P7: orders that fit, lots, fusions -/
namespace KK
open PySem DE
/-- the orders for which all rows hold -/
def fit (R : List (List Nat)) (m : Nat) : List (List Nat) := (perms m).filter fun o => R.all fun r => hold r o
theorem perms_len {m : Nat} (hm : m ≤ 8) : (perms m).length ≤ 16777216 := by
  rcases Nat.eq_zero_or_pos m with h0 | h0
  · subst h0; decide
  · exact Nat.le_trans (begun_len m m) (Nat.le_trans (Nat.pow_le_pow_left hm m) (Nat.le_trans (Nat.pow_le_pow_right (by omega) hm) (by decide)))
theorem fitting1_eq (R : List (List Nat)) (m : Nat) (S : Store) (hm : m ≤ 8) (hR : ∀ r ∈ R, r.length = m) : m_law_fitting_v1 [.lst (R.map D.str), .int (m : Nat)] S = some (.lst ((fit R m).map enT), S) := by
  have hp := perms_len hm
  have hc : ∀ (F : List (List Nat)) (r : List Nat), r.length = m → (∀ o ∈ F, o ∈ perms m) → F.length ≤ 16777216 → evF law_fitting_v1_c0 ([some (.imm (.lst (R.map D.str))), some (.imm (.int (m : Nat))), some (.imm (.lst (F.map enT))), some (.imm (.str r)), none], S) = some ((F.filter (hold r)).map enT, ([some (.imm (.lst (R.map D.str))), some (.imm (.int (m : Nat))), some (.imm (.lst (F.map enT))), some (.imm (.str r)), none], S)) := by
    intro F r hr hF hl
    unfold law_fitting_v1_c0
    refine comp_nm F enT _ _ rfl rfl hl fun o ho => ⟨?_, fun _ => ⟨rfl, rfl⟩⟩
    have h1 := mem_perms.mp (hF o ho)
    have e := holds_tup r o S (fun k hk => by rw [hr]; exact h1.2.2 k hk) (by omega)
    simp only [EV0, EV1, EV2, EV3, EV4, EV5, EV6, EV7, EV8, EV9, EV10, EV11, EV12, EV13, EV14, EV15, EV16, Option.bind_some, Option.bind_none, Option.map_some, Option.map_none, List.getElem?_cons_zero, List.getElem?_cons_succ, List.set_cons_zero, List.set_cons_succ, List.map_cons, List.map_nil, List.length_cons, List.length_nil, List.cons_append, List.nil_append, Bool.and_true, Bool.true_and, Bool.and_false, Bool.false_and, List.all_cons, List.all_nil, List.replicate, Bool.not_true, Bool.not_false, Bool.false_eq_true, if_true, if_false, ↓reduceIte, decide_true, decide_false, Nat.zero_add, Nat.reduceAdd, Nat.reduceSub, dd_lnbor, dd_lnown, dd_lnbrw, dd_plT, dd_rdT, dd_lnT, dd_dvT, dd_itT, dd_isT, dd_tyT, dd_lenT, dd_esT, dd_tpT, dd_lsT, dd_plB, dd_rdB, dd_lnB, dd_dvB, dd_icB, dd_f4B, dd_f5B, dd_f6B, show m_law_holds [.str r, enT o] S = some (.bl (hold r o), S) from e]
  have hF : ∀ k, ∀ o ∈ (perms m).filter (fun o => (R.take k).all fun r => hold r o), o ∈ perms m := fun k o ho => (List.mem_filter.mp ho).1
  obtain ⟨z', e, o3, rfl⟩ := for_acc (g := .nm 3) (b := law_fitting_v1_b0) R D.str (fun k z => ∃ o3 : Option DV, z = ([some (.imm (.lst (R.map D.str))), some (.imm (.int (m : Nat))), some (.imm (.lst (((perms m).filter (fun o => (R.take k).all fun r => hold r o)).map enT))), o3, none], S)) (z := ([some (.imm (.lst (R.map D.str))), some (.imm (.int (m : Nat))), some (.imm (.lst ((perms m).map enT))), none, none], S)) ⟨none, by rw [show (perms m).filter (fun o => (R.take 0).all fun r => hold r o) = perms m from List.filter_eq_self.mpr (fun _ _ => rfl)]⟩ (fun k r z hk hz => by
    obtain ⟨o3, rfl⟩ := hz
    have hk1 := (List.getElem?_eq_some_iff.mp hk).1
    have hko := (List.getElem?_eq_some_iff.mp hk).2
    have e := hc _ r (hR r (List.mem_of_getElem? hk)) (hF k) (Nat.le_trans (List.length_filter_le _ _) hp)
    have hs : ((perms m).filter (fun o => (R.take k).all fun r => hold r o)).filter (hold r) = (perms m).filter (fun o => (R.take (k + 1)).all fun r => hold r o) := by
      rw [List.filter_filter]
      refine List.filter_congr fun o _ => ?_
      rw [List.take_succ_eq_append_getElem hk1, List.all_append, hko]
      simp [Bool.and_comm]
    rw [hs] at e
    refine ⟨_, ([some (.imm (.lst (R.map D.str))), some (.imm (.int (m : Nat))), some (.imm (.lst (((perms m).filter (fun o => (R.take (k + 1)).all fun r => hold r o)).map enT))), some (.imm (.str r)), none], S), rfl, .inl ?_, _, rfl⟩
    unfold law_fitting_v1_b0
    simp only [EV0, EV1, EV2, EV3, EV4, EV5, EV6, EV7, EV8, EV9, EV10, EV11, EV12, EV13, EV14, EV15, EV16, Option.bind_some, Option.bind_none, Option.map_some, Option.map_none, List.getElem?_cons_zero, List.getElem?_cons_succ, List.set_cons_zero, List.set_cons_succ, List.map_cons, List.map_nil, List.length_cons, List.length_nil, List.cons_append, List.nil_append, Bool.and_true, Bool.true_and, Bool.and_false, Bool.false_and, List.all_cons, List.all_nil, List.replicate, Bool.not_true, Bool.not_false, Bool.false_eq_true, if_true, if_false, ↓reduceIte, decide_true, decide_false, Nat.zero_add, Nat.reduceAdd, Nat.reduceSub, dd_lnbor, dd_lnown, dd_lnbrw, dd_plT, dd_rdT, dd_lnT, dd_dvT, dd_itT, dd_isT, dd_tyT, dd_lenT, dd_esT, dd_tpT, dd_lsT, dd_plB, dd_rdB, dd_lnB, dd_dvB, dd_icB, dd_f4B, dd_f5B, dd_f6B, e])
  rw [List.take_length] at e
  have ha := law_all_eq m S hm
  unfold m_law_fitting_v1 ir_law_fitting_v1
  simp only [EV0, EV1, EV2, EV3, EV4, EV5, EV6, EV7, EV8, EV9, EV10, EV11, EV12, EV13, EV14, EV15, EV16, Option.bind_some, Option.bind_none, Option.map_some, Option.map_none, List.getElem?_cons_zero, List.getElem?_cons_succ, List.set_cons_zero, List.set_cons_succ, List.map_cons, List.map_nil, List.length_cons, List.length_nil, List.cons_append, List.nil_append, Bool.and_true, Bool.true_and, Bool.and_false, Bool.false_and, List.all_cons, List.all_nil, List.replicate, Bool.not_true, Bool.not_false, Bool.false_eq_true, if_true, if_false, ↓reduceIte, decide_true, decide_false, Nat.zero_add, Nat.reduceAdd, Nat.reduceSub, dd_lnbor, dd_lnown, dd_lnbrw, dd_plT, dd_rdT, dd_lnT, dd_dvT, dd_itT, dd_isT, dd_tyT, dd_lenT, dd_esT, dd_tpT, dd_lsT, dd_plB, dd_rdB, dd_lnB, dd_dvB, dd_icB, dd_f4B, dd_f5B, dd_f6B, ha, e]
  rfl
/-! ### lots -/
def lots : Nat → List (List Nat)
  | 0 => [[]]
  | n + 1 => lots n ++ (lots n).map (· ++ [n])
theorem lots_len : ∀ n, (lots n).length = 2 ^ n
  | 0 => rfl
  | n + 1 => by rw [lots, List.length_append, List.length_map, lots_len n, Nat.pow_succ]; omega
theorem mem_lots : ∀ (n : Nat) (o : List Nat), o ∈ lots n ↔ o.Pairwise (· < ·) ∧ ∀ k ∈ o, k < n
  | 0, o => by
    simp only [lots, List.mem_singleton]
    constructor
    · rintro rfl; simp
    · rintro ⟨_, h⟩
      cases o with
      | nil => rfl
      | cons a o => exact absurd (h a (List.mem_cons_self ..)) (by omega)
  | n + 1, o => by
    rw [lots, List.mem_append, mem_lots n, List.mem_map]
    constructor
    · rintro (⟨h1, h2⟩ | ⟨p, hp, rfl⟩)
      · exact ⟨h1, fun k hk => by have := h2 k hk; omega⟩
      · obtain ⟨h1, h2⟩ := (mem_lots n p).mp hp
        refine ⟨List.pairwise_append.mpr ⟨h1, by simp, fun a ha b hb => ?_⟩, fun k hk => ?_⟩
        · rw [List.mem_singleton.mp hb]; exact h2 a ha
        · rcases List.mem_append.mp hk with h | h
          · have := h2 k h; omega
          · rw [List.mem_singleton.mp h]; omega
    · rintro ⟨h1, h2⟩
      by_cases hn : n ∈ o
      · right
        have hne : o ≠ [] := by intro e; rw [e] at hn; cases hn
        have e := List.dropLast_concat_getLast hne
        have hp := h1
        rw [← e, List.pairwise_append] at hp
        have hlast : o.getLast hne = n := by
          rw [← e] at hn
          rcases List.mem_append.mp hn with h | h
          · have := hp.2.2 n h _ (List.mem_singleton_self _)
            have := h2 _ (List.getLast_mem hne)
            omega
          · exact (List.mem_singleton.mp h).symm
        refine ⟨o.dropLast, (mem_lots n _).mpr ⟨hp.1, fun k hk => ?_⟩, by rw [← hlast]; exact e⟩
        have := hp.2.2 k hk _ (List.mem_singleton_self _)
        omega
      · left
        refine ⟨h1, fun k hk => ?_⟩
        have := h2 k hk
        have : k ≠ n := fun e => hn (e ▸ hk)
        omega
theorem nodup_le : ∀ (n : Nat) (o : List Nat), o.Nodup → (∀ k ∈ o, k < n) → o.length ≤ n
  | 0, o, _, h => by
    cases o with
    | nil => simp
    | cons a o => exact absurd (h a (List.mem_cons_self ..)) (by omega)
  | n + 1, o, hn, h => by
    by_cases hm : n ∈ o
    · have h1 := nodup_le n (o.erase n) (hn.sublist (List.erase_sublist ..)) fun k hk => by
        have hk2 := (hn.mem_erase_iff.mp hk)
        have := h k hk2.2
        have := hk2.1
        omega
      rw [List.length_erase_of_mem hm] at h1
      omega
    · have h1 := nodup_le n o hn fun k hk => by
        have := h k hk
        have : k ≠ n := fun e => hm (e ▸ hk)
        omega
      omega
theorem lot_len {n : Nat} {o : List Nat} (h : o ∈ lots n) : o.length ≤ n := by
  obtain ⟨h1, h2⟩ := (mem_lots n o).mp h
  have hn : o.Nodup := by rw [List.nodup_iff_pairwise_ne]; exact h1.imp fun h e => by omega
  exact nodup_le n o hn h2
theorem law_lots_eq (n : Nat) (S : Store) (hn : n ≤ 10) : m_law_lots [.int (n : Nat)] S = some (.lst ((lots n).map enT), S) := by
  have hp : ∀ k, k ≤ n → 2 ^ k ≤ 1024 := fun k hk => Nat.le_trans (Nat.pow_le_pow_right (by omega) (show k ≤ 10 by omega)) (by decide)
  obtain ⟨z', e, o2, rfl⟩ := for_acc (g := .nm 2) (b := law_lots_b0) (List.range n) (fun k => D.int (k : Nat)) (fun k z => ∃ o2 : Option DV, z = ([some (.imm (.int (n : Nat))), some (.imm (.lst ((lots k).map enT))), o2, none], S)) (z := ([some (.imm (.int (n : Nat))), some (.imm (.lst [.tup []])), none, none], S)) ⟨none, rfl⟩ (fun k a z hk hz => by
    obtain ⟨o2, rfl⟩ := hz
    have hk1 : k < n := by
      have := (List.getElem?_eq_some_iff.mp hk).1
      simpa using this
    have ha : a = k := by
      rw [List.getElem?_range hk1] at hk
      cases hk; rfl
    subst ha
    have h1 := hp a (by omega)
    have hc : evF law_lots_c0 ([some (.imm (.int (n : Nat))), some (.imm (.lst ((lots a).map enT))), some (.imm (.int (a : Nat))), none], S) = some (((lots a).map (· ++ [a])).map enT, ([some (.imm (.int (n : Nat))), some (.imm (.lst ((lots a).map enT))), some (.imm (.int (a : Nat))), none], S)) := by
      unfold law_lots_c0
      rw [List.map_map]
      refine comp_map (lots a) enT (enT ∘ (· ++ [a])) rfl rfl (by rw [lots_len]; omega) fun o ho => ⟨?_, rfl⟩
      have := lot_len ho
      simp only [EV0, EV1, EV2, EV3, EV4, EV5, EV6, EV7, EV8, EV9, EV10, EV11, EV12, EV13, EV14, EV15, EV16, Option.bind_some, Option.bind_none, Option.map_some, Option.map_none, List.getElem?_cons_zero, List.getElem?_cons_succ, List.set_cons_zero, List.set_cons_succ, List.map_cons, List.map_nil, List.length_cons, List.length_nil, List.cons_append, List.nil_append, Bool.and_true, Bool.true_and, Bool.and_false, Bool.false_and, List.all_cons, List.all_nil, List.replicate, Bool.not_true, Bool.not_false, Bool.false_eq_true, if_true, if_false, ↓reduceIte, decide_true, decide_false, Nat.zero_add, Nat.reduceAdd, Nat.reduceSub, dd_lnbor, dd_lnown, dd_lnbrw, dd_plT, dd_rdT, dd_lnT, dd_dvT, dd_itT, dd_isT, dd_tyT, dd_lenT, dd_esT, dd_tpT, dd_lsT, dd_plB, dd_rdB, dd_lnB, dd_dvB, dd_icB, dd_f4B, dd_f5B, dd_f6B, add_tup1 (show o.length ≤ 1000 by omega)]
      rfl
    refine ⟨_, ([some (.imm (.int (n : Nat))), some (.imm (.lst ((lots (a + 1)).map enT))), some (.imm (.int (a : Nat))), none], S), rfl, .inl ?_, _, rfl⟩
    unfold law_lots_b0
    rw [lots, List.map_append]
    simp only [EV0, EV1, EV2, EV3, EV4, EV5, EV6, EV7, EV8, EV9, EV10, EV11, EV12, EV13, EV14, EV15, EV16, Option.bind_some, Option.bind_none, Option.map_some, Option.map_none, List.getElem?_cons_zero, List.getElem?_cons_succ, List.set_cons_zero, List.set_cons_succ, List.map_cons, List.map_nil, List.length_cons, List.length_nil, List.cons_append, List.nil_append, Bool.and_true, Bool.true_and, Bool.and_false, Bool.false_and, List.all_cons, List.all_nil, List.replicate, Bool.not_true, Bool.not_false, Bool.false_eq_true, if_true, if_false, ↓reduceIte, decide_true, decide_false, Nat.zero_add, Nat.reduceAdd, Nat.reduceSub, dd_lnbor, dd_lnown, dd_lnbrw, dd_plT, dd_rdT, dd_lnT, dd_dvT, dd_itT, dd_isT, dd_tyT, dd_lenT, dd_esT, dd_tpT, dd_lsT, dd_plB, dd_rdB, dd_lnB, dd_dvB, dd_icB, dd_f4B, dd_f5B, dd_f6B, hc, add_lst (a := (lots a).map enT) (b := ((lots a).map (· ++ [a])).map enT) (by simp only [List.length_map, lots_len]; omega)])
  rw [List.length_range] at e
  unfold m_law_lots ir_law_lots
  simp only [EV0, EV1, EV2, EV3, EV4, EV5, EV6, EV7, EV8, EV9, EV10, EV11, EV12, EV13, EV14, EV15, EV16, Option.bind_some, Option.bind_none, Option.map_some, Option.map_none, List.getElem?_cons_zero, List.getElem?_cons_succ, List.set_cons_zero, List.set_cons_succ, List.map_cons, List.map_nil, List.length_cons, List.length_nil, List.cons_append, List.nil_append, Bool.and_true, Bool.true_and, Bool.and_false, Bool.false_and, List.all_cons, List.all_nil, List.replicate, Bool.not_true, Bool.not_false, Bool.false_eq_true, if_true, if_false, ↓reduceIte, decide_true, decide_false, Nat.zero_add, Nat.reduceAdd, Nat.reduceSub, dd_lnbor, dd_lnown, dd_lnbrw, dd_plT, dd_rdT, dd_lnT, dd_dvT, dd_itT, dd_isT, dd_tyT, dd_lenT, dd_esT, dd_tpT, dd_lsT, dd_plB, dd_rdB, dd_lnB, dd_dvB, dd_icB, dd_f4B, dd_f5B, dd_f6B, bigOk_of (show -1000000000 ≤ ((n : Nat) : Int) by omega) (show ((n : Nat) : Int) ≤ 1000000000 by omega), show rngL 0 ((n : Nat) : Int).toNat = (List.range n).map fun k => D.int (k : Nat) by rw [Int.toNat_natCast, rng_map], e]
end KK
set_option Elab.async false
set_option linter.all false
set_option maxRecDepth 100000
set_option maxHeartbeats 1000000
/-! P8: fusions, opposites -/
namespace KK
open PySem DE
def fz (col : List Nat) : Nat := if 45 ∈ col then 45 else if 43 ∈ col then 43 else 46
def colOf (rows : List (List Nat)) (k : Nat) : List Nat := rows.map fun r => r.getD k 46
def fuse (rows : List (List Nat)) (m : Nat) : List Nat := (List.range m).map fun k => fz (colOf rows k)
theorem fuse_succ (rows : List (List Nat)) (k : Nat) : fuse rows (k + 1) = fuse rows k ++ [fz (colOf rows k)] := by
  unfold fuse
  rw [List.range_succ, List.map_append]
  rfl
theorem fuse_len (rows : List (List Nat)) (m : Nat) : (fuse rows m).length = m := by simp [fuse]
theorem fuse_get (rows : List (List Nat)) {m k : Nat} (h : k < m) : (fuse rows m).getD k 46 = fz (colOf rows k) := by
  unfold fuse
  rw [List.getD_eq_getElem?_getD, List.getElem?_map, List.getElem?_range h]
  rfl
theorem mem_signs (c : Nat) (l : List Nat) : memD (.str [c]) (l.map fun x => D.str [x]) = decide (c ∈ l) := by
  unfold memD
  induction l with
  | nil => rfl
  | cons a l ih =>
    rw [List.map_cons, List.any_cons, ih]
    by_cases h : a = c
    · subst h; simp [eqB]
    · have : ¬ c = a := fun q => h q.symm
      simp [eqB, h, this]
theorem in_signs (c : Nat) (l : List Nat) : inD (.str [c]) (.lst (l.map fun x => D.str [x])) = some (.bl (decide (c ∈ l))) := by
  have e : (l.map fun x => D.str [x]).all shp = true := dpts_str (fun x => [x]) l
  have e2 : shp (.str [c]) = true := dpt_str
  unfold inD
  simp only [e, e2, mem_signs, Bool.and_self, if_true]
theorem cnt_signs (c : Nat) (l : List Nat) : lcountD (.lst (l.map fun x => D.str [x])) (.str [c]) = some (.int (l.count c : Nat)) := by
  have e : (l.map fun x => D.str [x]).all shp = true := dpts_str (fun x => [x]) l
  have e2 : shp (.str [c]) = true := dpt_str
  have e3 : cntD (.str [c]) (l.map fun x => D.str [x]) = l.count c := by
    unfold cntD
    rw [List.countP_map, List.count_eq_countP]
    refine List.countP_congr fun x _ => ?_
    simp [eqB]
  unfold lcountD
  simp only [e, e2, e3, Bool.and_self, if_true]
theorem add_sign (s : List Nat) (c : Nat) (h : s.length ≤ 1000) : addD (.str s) (.str [c]) = some (.str (s ++ [c])) := by
  have e : okN (s.length + [c].length) = true := okN_of (by simp; omega)
  unfold addD
  simp only [e, if_true]
theorem col_get (rows : List (List Nat)) (k : Nat) : rows.map (fun r => D.str [r.getD k 46]) = (colOf rows k).map fun c => D.str [c] := by
  unfold colOf; rw [List.map_map]; rfl
theorem fused_eq (rows : List (List Nat)) (m : Nat) (S : Store) (hm : m ≤ 8) (hr : ∀ r ∈ rows, r.length = m) (hl : rows.length ≤ 1000) : m_fused [.lst (rows.map D.str), .int (m : Nat)] S = some (.str (fuse rows m), S) := by
  obtain ⟨z', e, o3, o4, rfl⟩ := for_acc (g := .nm 3) (b := fused_b0) (List.range m) (fun k => D.int (k : Nat)) (fun k z => ∃ o3 o4 : Option DV, z = ([some (.imm (.lst (rows.map D.str))), some (.imm (.int (m : Nat))), some (.imm (.str (fuse rows k))), o3, o4, none], S)) (z := ([some (.imm (.lst (rows.map D.str))), some (.imm (.int (m : Nat))), some (.imm (.str [])), none, none, none], S)) ⟨none, none, rfl⟩ (fun k a z hk hz => by
    obtain ⟨o3, o4, rfl⟩ := hz
    have hk1 : k < m := by
      have := (List.getElem?_eq_some_iff.mp hk).1
      simpa using this
    have ha : a = k := by
      rw [List.getElem?_range hk1] at hk
      cases hk; rfl
    subst ha
    have hc : evF fused_c0 ([some (.imm (.lst (rows.map D.str))), some (.imm (.int (m : Nat))), some (.imm (.str (fuse rows a))), some (.imm (.int (a : Nat))), o4, none], S) = some ((colOf rows a).map (fun c => D.str [c]), ([some (.imm (.lst (rows.map D.str))), some (.imm (.int (m : Nat))), some (.imm (.str (fuse rows a))), some (.imm (.int (a : Nat))), o4, none], S)) := by
      unfold fused_c0
      rw [← col_get]
      refine comp_map rows D.str _ rfl rfl (by omega) fun r hr' => ⟨?_, rfl⟩
      simp only [EV0, EV1, EV2, EV3, EV4, EV5, EV6, EV7, EV8, EV9, EV10, EV11, EV12, EV13, EV14, EV15, EV16, Option.bind_some, Option.bind_none, Option.map_some, Option.map_none, List.getElem?_cons_zero, List.getElem?_cons_succ, List.set_cons_zero, List.set_cons_succ, List.map_cons, List.map_nil, List.length_cons, List.length_nil, List.cons_append, List.nil_append, Bool.and_true, Bool.true_and, Bool.and_false, Bool.false_and, List.all_cons, List.all_nil, List.replicate, Bool.not_true, Bool.not_false, Bool.false_eq_true, if_true, if_false, ↓reduceIte, decide_true, decide_false, Nat.zero_add, Nat.reduceAdd, Nat.reduceSub, dd_lnbor, dd_lnown, dd_lnbrw, dd_plT, dd_rdT, dd_lnT, dd_dvT, dd_itT, dd_isT, dd_tyT, dd_lenT, dd_esT, dd_tpT, dd_lsT, dd_plB, dd_rdB, dd_lnB, dd_dvB, dd_icB, dd_f4B, dd_f5B, dd_f6B, ix_row (show a < r.length by rw [hr r hr']; exact hk1)]
    refine ⟨_, ([some (.imm (.lst (rows.map D.str))), some (.imm (.int (m : Nat))), some (.imm (.str (fuse rows (a + 1)))), some (.imm (.int (a : Nat))), some (.imm (.lst ((colOf rows a).map fun c => D.str [c]))), none], S), rfl, .inl ?_, _, _, rfl⟩
    have hs := fun c => add_sign (fuse rows a) c (by rw [fuse_len]; omega)
    rw [fuse_succ]
    unfold fused_b0 fz
    by_cases h1 : 45 ∈ colOf rows a
    · simp only [EV0, EV1, EV2, EV3, EV4, EV5, EV6, EV7, EV8, EV9, EV10, EV11, EV12, EV13, EV14, EV15, EV16, Option.bind_some, Option.bind_none, Option.map_some, Option.map_none, List.getElem?_cons_zero, List.getElem?_cons_succ, List.set_cons_zero, List.set_cons_succ, List.map_cons, List.map_nil, List.length_cons, List.length_nil, List.cons_append, List.nil_append, Bool.and_true, Bool.true_and, Bool.and_false, Bool.false_and, List.all_cons, List.all_nil, List.replicate, Bool.not_true, Bool.not_false, Bool.false_eq_true, if_true, if_false, ↓reduceIte, decide_true, decide_false, Nat.zero_add, Nat.reduceAdd, Nat.reduceSub, dd_lnbor, dd_lnown, dd_lnbrw, dd_plT, dd_rdT, dd_lnT, dd_dvT, dd_itT, dd_isT, dd_tyT, dd_lenT, dd_esT, dd_tpT, dd_lsT, dd_plB, dd_rdB, dd_lnB, dd_dvB, dd_icB, dd_f4B, dd_f5B, dd_f6B, hc, in_signs, h1, decide_true, hs]
    · by_cases h2 : 43 ∈ colOf rows a
      · simp only [EV0, EV1, EV2, EV3, EV4, EV5, EV6, EV7, EV8, EV9, EV10, EV11, EV12, EV13, EV14, EV15, EV16, Option.bind_some, Option.bind_none, Option.map_some, Option.map_none, List.getElem?_cons_zero, List.getElem?_cons_succ, List.set_cons_zero, List.set_cons_succ, List.map_cons, List.map_nil, List.length_cons, List.length_nil, List.cons_append, List.nil_append, Bool.and_true, Bool.true_and, Bool.and_false, Bool.false_and, List.all_cons, List.all_nil, List.replicate, Bool.not_true, Bool.not_false, Bool.false_eq_true, if_true, if_false, ↓reduceIte, decide_true, decide_false, Nat.zero_add, Nat.reduceAdd, Nat.reduceSub, dd_lnbor, dd_lnown, dd_lnbrw, dd_plT, dd_rdT, dd_lnT, dd_dvT, dd_itT, dd_isT, dd_tyT, dd_lenT, dd_esT, dd_tpT, dd_lsT, dd_plB, dd_rdB, dd_lnB, dd_dvB, dd_icB, dd_f4B, dd_f5B, dd_f6B, hc, in_signs, h1, h2, decide_true, decide_false, hs]
      · simp only [EV0, EV1, EV2, EV3, EV4, EV5, EV6, EV7, EV8, EV9, EV10, EV11, EV12, EV13, EV14, EV15, EV16, Option.bind_some, Option.bind_none, Option.map_some, Option.map_none, List.getElem?_cons_zero, List.getElem?_cons_succ, List.set_cons_zero, List.set_cons_succ, List.map_cons, List.map_nil, List.length_cons, List.length_nil, List.cons_append, List.nil_append, Bool.and_true, Bool.true_and, Bool.and_false, Bool.false_and, List.all_cons, List.all_nil, List.replicate, Bool.not_true, Bool.not_false, Bool.false_eq_true, if_true, if_false, ↓reduceIte, decide_true, decide_false, Nat.zero_add, Nat.reduceAdd, Nat.reduceSub, dd_lnbor, dd_lnown, dd_lnbrw, dd_plT, dd_rdT, dd_lnT, dd_dvT, dd_itT, dd_isT, dd_tyT, dd_lenT, dd_esT, dd_tpT, dd_lsT, dd_plB, dd_rdB, dd_lnB, dd_dvB, dd_icB, dd_f4B, dd_f5B, dd_f6B, hc, in_signs, h1, h2, decide_true, decide_false, hs])
  rw [List.length_range] at e
  unfold m_fused ir_fused
  simp only [EV0, EV1, EV2, EV3, EV4, EV5, EV6, EV7, EV8, EV9, EV10, EV11, EV12, EV13, EV14, EV15, EV16, Option.bind_some, Option.bind_none, Option.map_some, Option.map_none, List.getElem?_cons_zero, List.getElem?_cons_succ, List.set_cons_zero, List.set_cons_succ, List.map_cons, List.map_nil, List.length_cons, List.length_nil, List.cons_append, List.nil_append, Bool.and_true, Bool.true_and, Bool.and_false, Bool.false_and, List.all_cons, List.all_nil, List.replicate, Bool.not_true, Bool.not_false, Bool.false_eq_true, if_true, if_false, ↓reduceIte, decide_true, decide_false, Nat.zero_add, Nat.reduceAdd, Nat.reduceSub, dd_lnbor, dd_lnown, dd_lnbrw, dd_plT, dd_rdT, dd_lnT, dd_dvT, dd_itT, dd_isT, dd_tyT, dd_lenT, dd_esT, dd_tpT, dd_lsT, dd_plB, dd_rdB, dd_lnB, dd_dvB, dd_icB, dd_f4B, dd_f5B, dd_f6B, bigOk_of (show -1000000000 ≤ ((m : Nat) : Int) by omega) (show ((m : Nat) : Int) ≤ 1000000000 by omega), show rngL 0 ((m : Nat) : Int).toNat = (List.range m).map fun k => D.int (k : Nat) by rw [Int.toNat_natCast, rng_map], e]
theorem law_fused_eq (rows : List (List Nat)) (m : Nat) (S : Store) (hm : m ≤ 8) (hr : ∀ r ∈ rows, r.length = m) (hl : rows.length ≤ 1000) : m_law_fused [.lst (rows.map D.str), .int (m : Nat)] S = some (.str (fuse rows m), S) := by
  obtain ⟨z', e, o3, o4, rfl⟩ := for_acc (g := .nm 3) (b := law_fused_b0) (List.range m) (fun k => D.int (k : Nat)) (fun k z => ∃ o3 o4 : Option DV, z = ([some (.imm (.lst (rows.map D.str))), some (.imm (.int (m : Nat))), some (.own ((fuse rows k).map fun c => D.str [c])), o3, o4, none], S)) (z := ([some (.imm (.lst (rows.map D.str))), some (.imm (.int (m : Nat))), some (.own []), none, none, none], S)) ⟨none, none, rfl⟩ (fun k a z hk hz => by
    obtain ⟨o3, o4, rfl⟩ := hz
    have hk1 : k < m := by
      have := (List.getElem?_eq_some_iff.mp hk).1
      simpa using this
    have ha : a = k := by
      rw [List.getElem?_range hk1] at hk
      cases hk; rfl
    subst ha
    have hc : evF law_fused_c0 ([some (.imm (.lst (rows.map D.str))), some (.imm (.int (m : Nat))), some (.own ((fuse rows a).map fun c => D.str [c])), some (.imm (.int (a : Nat))), o4, none], S) = some ((colOf rows a).map (fun c => D.str [c]), ([some (.imm (.lst (rows.map D.str))), some (.imm (.int (m : Nat))), some (.own ((fuse rows a).map fun c => D.str [c])), some (.imm (.int (a : Nat))), o4, none], S)) := by
      unfold law_fused_c0
      rw [← col_get]
      refine comp_map rows D.str _ rfl rfl (by omega) fun r hr' => ⟨?_, rfl⟩
      simp only [EV0, EV1, EV2, EV3, EV4, EV5, EV6, EV7, EV8, EV9, EV10, EV11, EV12, EV13, EV14, EV15, EV16, Option.bind_some, Option.bind_none, Option.map_some, Option.map_none, List.getElem?_cons_zero, List.getElem?_cons_succ, List.set_cons_zero, List.set_cons_succ, List.map_cons, List.map_nil, List.length_cons, List.length_nil, List.cons_append, List.nil_append, Bool.and_true, Bool.true_and, Bool.and_false, Bool.false_and, List.all_cons, List.all_nil, List.replicate, Bool.not_true, Bool.not_false, Bool.false_eq_true, if_true, if_false, ↓reduceIte, decide_true, decide_false, Nat.zero_add, Nat.reduceAdd, Nat.reduceSub, dd_lnbor, dd_lnown, dd_lnbrw, dd_plT, dd_rdT, dd_lnT, dd_dvT, dd_itT, dd_isT, dd_tyT, dd_lenT, dd_esT, dd_tpT, dd_lsT, dd_plB, dd_rdB, dd_lnB, dd_dvB, dd_icB, dd_f4B, dd_f5B, dd_f6B, ix_row (show a < r.length by rw [hr r hr']; exact hk1)]
    refine ⟨_, ([some (.imm (.lst (rows.map D.str))), some (.imm (.int (m : Nat))), some (.own ((fuse rows (a + 1)).map fun c => D.str [c])), some (.imm (.int (a : Nat))), some (.imm (.lst ((colOf rows a).map fun c => D.str [c]))), none], S), rfl, .inl ?_, _, _, rfl⟩
    have hb := blt_of (show (fuse rows a).length < 16777216 by rw [fuse_len]; omega)
    rw [fuse_succ, List.map_append]
    unfold law_fused_b0 fz
    have c1 : decide ((0 : Int) < ((colOf rows a).count 45 : Nat)) = decide (45 ∈ colOf rows a) := by
      rw [decide_eq_decide, ← List.count_pos_iff]; omega
    have c2 : decide ((0 : Int) < ((colOf rows a).count 43 : Nat)) = decide (43 ∈ colOf rows a) := by
      rw [decide_eq_decide, ← List.count_pos_iff]; omega
    by_cases h1 : 45 ∈ colOf rows a
    · simp only [EV0, EV1, EV2, EV3, EV4, EV5, EV6, EV7, EV8, EV9, EV10, EV11, EV12, EV13, EV14, EV15, EV16, Option.bind_some, Option.bind_none, Option.map_some, Option.map_none, List.getElem?_cons_zero, List.getElem?_cons_succ, List.set_cons_zero, List.set_cons_succ, List.map_cons, List.map_nil, List.length_cons, List.length_nil, List.cons_append, List.nil_append, Bool.and_true, Bool.true_and, Bool.and_false, Bool.false_and, List.all_cons, List.all_nil, List.replicate, Bool.not_true, Bool.not_false, Bool.false_eq_true, if_true, if_false, ↓reduceIte, decide_true, decide_false, Nat.zero_add, Nat.reduceAdd, Nat.reduceSub, dd_lnbor, dd_lnown, dd_lnbrw, dd_plT, dd_rdT, dd_lnT, dd_dvT, dd_itT, dd_isT, dd_tyT, dd_lenT, dd_esT, dd_tpT, dd_lsT, dd_plB, dd_rdB, dd_lnB, dd_dvB, dd_icB, dd_f4B, dd_f5B, dd_f6B, hc, cnt_signs, c1, c2, h1, decide_true, List.length_map, hb]
    · by_cases h2 : 43 ∈ colOf rows a
      · simp only [EV0, EV1, EV2, EV3, EV4, EV5, EV6, EV7, EV8, EV9, EV10, EV11, EV12, EV13, EV14, EV15, EV16, Option.bind_some, Option.bind_none, Option.map_some, Option.map_none, List.getElem?_cons_zero, List.getElem?_cons_succ, List.set_cons_zero, List.set_cons_succ, List.map_cons, List.map_nil, List.length_cons, List.length_nil, List.cons_append, List.nil_append, Bool.and_true, Bool.true_and, Bool.and_false, Bool.false_and, List.all_cons, List.all_nil, List.replicate, Bool.not_true, Bool.not_false, Bool.false_eq_true, if_true, if_false, ↓reduceIte, decide_true, decide_false, Nat.zero_add, Nat.reduceAdd, Nat.reduceSub, dd_lnbor, dd_lnown, dd_lnbrw, dd_plT, dd_rdT, dd_lnT, dd_dvT, dd_itT, dd_isT, dd_tyT, dd_lenT, dd_esT, dd_tpT, dd_lsT, dd_plB, dd_rdB, dd_lnB, dd_dvB, dd_icB, dd_f4B, dd_f5B, dd_f6B, hc, cnt_signs, c1, c2, h1, h2, decide_true, decide_false, List.length_map, hb]
      · simp only [EV0, EV1, EV2, EV3, EV4, EV5, EV6, EV7, EV8, EV9, EV10, EV11, EV12, EV13, EV14, EV15, EV16, Option.bind_some, Option.bind_none, Option.map_some, Option.map_none, List.getElem?_cons_zero, List.getElem?_cons_succ, List.set_cons_zero, List.set_cons_succ, List.map_cons, List.map_nil, List.length_cons, List.length_nil, List.cons_append, List.nil_append, Bool.and_true, Bool.true_and, Bool.and_false, Bool.false_and, List.all_cons, List.all_nil, List.replicate, Bool.not_true, Bool.not_false, Bool.false_eq_true, if_true, if_false, ↓reduceIte, decide_true, decide_false, Nat.zero_add, Nat.reduceAdd, Nat.reduceSub, dd_lnbor, dd_lnown, dd_lnbrw, dd_plT, dd_rdT, dd_lnT, dd_dvT, dd_itT, dd_isT, dd_tyT, dd_lenT, dd_esT, dd_tpT, dd_lsT, dd_plB, dd_rdB, dd_lnB, dd_dvB, dd_icB, dd_f4B, dd_f5B, dd_f6B, hc, cnt_signs, c1, c2, h1, h2, decide_true, decide_false, List.length_map, hb])
  rw [List.length_range] at e
  unfold m_law_fused ir_law_fused
  simp only [EV0, EV1, EV2, EV3, EV4, EV5, EV6, EV7, EV8, EV9, EV10, EV11, EV12, EV13, EV14, EV15, EV16, Option.bind_some, Option.bind_none, Option.map_some, Option.map_none, List.getElem?_cons_zero, List.getElem?_cons_succ, List.set_cons_zero, List.set_cons_succ, List.map_cons, List.map_nil, List.length_cons, List.length_nil, List.cons_append, List.nil_append, Bool.and_true, Bool.true_and, Bool.and_false, Bool.false_and, List.all_cons, List.all_nil, List.replicate, Bool.not_true, Bool.not_false, Bool.false_eq_true, if_true, if_false, ↓reduceIte, decide_true, decide_false, Nat.zero_add, Nat.reduceAdd, Nat.reduceSub, dd_lnbor, dd_lnown, dd_lnbrw, dd_plT, dd_rdT, dd_lnT, dd_dvT, dd_itT, dd_isT, dd_tyT, dd_lenT, dd_esT, dd_tpT, dd_lsT, dd_plB, dd_rdB, dd_lnB, dd_dvB, dd_icB, dd_f4B, dd_f5B, dd_f6B, bigOk_of (show -1000000000 ≤ ((m : Nat) : Int) by omega) (show ((m : Nat) : Int) ≤ 1000000000 by omega), show rngL 0 ((m : Nat) : Int).toNat = (List.range m).map fun k => D.int (k : Nat) by rw [Int.toNat_natCast, rng_map], e, join_signs (fuse rows m) (by rw [fuse_len]; omega)]
/-- what the fusion of rows keeps -/
theorem fuse_hold {R : List (List Nat)} {m : Nat} (hR : ∀ r ∈ R, Row m r) : ∀ o : List Nat, (∀ k ∈ o, k < m) → (∀ r ∈ R, hold r o = true) → hold (fuse R m) o = true
  | [], _, _ => rfl
  | k :: o, hk, h => by
    have hkm := hk k (List.mem_cons_self ..)
    unfold hold
    rw [fuse_get R hkm]
    by_cases h1 : 45 ∈ colOf R k
    · obtain ⟨r, hr, e⟩ := List.mem_map.mp h1
      have := h r hr
      unfold hold at this
      rw [e] at this
      simp at this
    · by_cases h2 : 43 ∈ colOf R k
      · simp [fz, h1, h2]
      · have ez : fz (colOf R k) = 46 := by simp [fz, h1, h2]
        rw [ez]
        simp only [if_true]
        refine fuse_hold hR o (fun j hj => hk j (List.mem_cons_of_mem _ hj)) fun r hr => ?_
        have hs : r.getD k 46 = 46 := by
          have hlt : k < r.length := by rw [(hR r hr).1]; exact hkm
          have hmem : r.getD k 46 ∈ colOf R k := List.mem_map.mpr ⟨r, hr, rfl⟩
          have hin : r.getD k 46 ∈ r := by
            rw [List.getD_eq_getElem?_getD, List.getElem?_eq_getElem hlt]
            exact List.getElem_mem hlt
          rcases (hR r hr).mem hin with e | e | e
          · rw [e] at hmem; exact absurd hmem h2
          · rw [e] at hmem; exact absurd hmem h1
          · exact e
        have := h r hr
        unfold hold at this
        rwa [if_pos hs] at this
/-! ### the program's functions -/
theorem is_integer_i (i : Int) (S : Store) : m_is_integer [.int i] S = some (.bl true, S) := rfl
theorem is_between_i (i a b : Int) (S : Store) : m_is_between [.int i, .int a, .int b] S = some (.bl (decide (a ≤ i) && decide (i ≤ b)), S) := by
  unfold m_is_between ir_is_between
  by_cases h : a ≤ i
  · simp only [EV0, EV1, EV2, EV3, EV4, EV5, EV6, EV7, EV8, EV9, EV10, EV11, EV12, EV13, EV14, EV15, EV16, Option.bind_some, Option.bind_none, Option.map_some, Option.map_none, List.getElem?_cons_zero, List.getElem?_cons_succ, List.set_cons_zero, List.set_cons_succ, List.map_cons, List.map_nil, List.length_cons, List.length_nil, List.cons_append, List.nil_append, Bool.and_true, Bool.true_and, Bool.and_false, Bool.false_and, List.all_cons, List.all_nil, List.replicate, Bool.not_true, Bool.not_false, Bool.false_eq_true, if_true, if_false, ↓reduceIte, decide_true, decide_false, Nat.zero_add, Nat.reduceAdd, Nat.reduceSub, dd_lnbor, dd_lnown, dd_lnbrw, dd_plT, dd_rdT, dd_lnT, dd_dvT, dd_itT, dd_isT, dd_tyT, dd_lenT, dd_esT, dd_tpT, dd_lsT, dd_plB, dd_rdB, dd_lnB, dd_dvB, dd_icB, dd_f4B, dd_f5B, dd_f6B, is_integer_i, chn_if, h, decide_true]
  · simp only [EV0, EV1, EV2, EV3, EV4, EV5, EV6, EV7, EV8, EV9, EV10, EV11, EV12, EV13, EV14, EV15, EV16, Option.bind_some, Option.bind_none, Option.map_some, Option.map_none, List.getElem?_cons_zero, List.getElem?_cons_succ, List.set_cons_zero, List.set_cons_succ, List.map_cons, List.map_nil, List.length_cons, List.length_nil, List.cons_append, List.nil_append, Bool.and_true, Bool.true_and, Bool.and_false, Bool.false_and, List.all_cons, List.all_nil, List.replicate, Bool.not_true, Bool.not_false, Bool.false_eq_true, if_true, if_false, ↓reduceIte, decide_true, decide_false, Nat.zero_add, Nat.reduceAdd, Nat.reduceSub, dd_lnbor, dd_lnown, dd_lnbrw, dd_plT, dd_rdT, dd_lnT, dd_dvT, dd_itT, dd_isT, dd_tyT, dd_lenT, dd_esT, dd_tpT, dd_lsT, dd_plB, dd_rdB, dd_lnB, dd_dvB, dd_icB, dd_f4B, dd_f5B, dd_f6B, is_integer_i, chn_if, h, decide_false]
theorem check_book_eq (L R : List (List Nat)) (S : Store) : m_check_book [bookD L R] S = some (.non, S) := rfl
theorem enum_map {α : Type} {f : α → D} (l : List α) : enumL (l.map f) = (l.zipIdx).map fun p => D.tup [.int (p.2 : Nat), f p.1] := by
  unfold enumL
  rw [rng_map, List.length_map]
  have : ∀ (l : List α) (n : Nat), zipT ((List.range' n l.length).map fun i => D.int (i : Nat)) (l.map f) = (l.zipIdx n).map fun p => D.tup [.int (p.2 : Nat), f p.1] := by
    intro l
    induction l with
    | nil => intro n; rfl
    | cons a l ih =>
      intro n
      rw [List.length_cons, List.range'_succ, List.map_cons, List.map_cons, List.zipIdx_cons, List.map_cons, ← ih (n + 1)]
      rfl
  rw [List.range_eq_range']
  exact this l 0
theorem check_lot_eq (o : List Nat) (n : Nat) (S : Store) (ho : o ∈ lots n) : m_check_lot [enT o, .int (n : Nat)] S = some (.non, S) := by
  obtain ⟨h1, h2⟩ := (mem_lots n o).mp ho
  obtain ⟨z', e, o2, o3, rfl⟩ := for_acc (g := .tp (.cons (.nm 2) (.cons (.nm 3) .nil))) (b := check_lot_b0) o.zipIdx (fun p => D.tup [.int (p.2 : Nat), .int (p.1 : Nat)]) (fun k z => ∃ o2 o3 : Option DV, z = ([some (.imm (enT o)), some (.imm (.int (n : Nat))), o2, o3], S)) (z := ([some (.imm (enT o)), some (.imm (.int (n : Nat))), none, none], S)) ⟨none, none, rfl⟩ (fun k p z hk hz => by
    obtain ⟨o2, o3, rfl⟩ := hz
    obtain ⟨v, i⟩ := p
    have hk0 := List.mem_of_getElem? hk
    have hv : o[i]? = some v := by
      have := List.mem_zipIdx_iff_getElem?.mp hk0
      simpa using this
    have hi : i < o.length := (List.getElem?_eq_some_iff.mp hv).1
    have hvn : v < n := h2 v (List.mem_of_getElem? hv)
    refine ⟨_, ([some (.imm (enT o)), some (.imm (.int (n : Nat))), some (.imm (.int (i : Nat))), some (.imm (.int (v : Nat)))], S), rfl, .inl ?_, _, _, rfl⟩
    have hb := is_between_i (v : Nat) 0 ((n : Nat) - 1) S
    rw [decide_eq_true (show (0 : Int) ≤ (v : Nat) by omega), decide_eq_true (show ((v : Nat) : Int) ≤ (n : Nat) - 1 by omega)] at hb
    unfold check_lot_b0
    by_cases h0 : i = 0
    · subst h0
      simp only [EV0, EV1, EV2, EV3, EV4, EV5, EV6, EV7, EV8, EV9, EV10, EV11, EV12, EV13, EV14, EV15, EV16, Option.bind_some, Option.bind_none, Option.map_some, Option.map_none, List.getElem?_cons_zero, List.getElem?_cons_succ, List.set_cons_zero, List.set_cons_succ, List.map_cons, List.map_nil, List.length_cons, List.length_nil, List.cons_append, List.nil_append, Bool.and_true, Bool.true_and, Bool.and_false, Bool.false_and, List.all_cons, List.all_nil, List.replicate, Bool.not_true, Bool.not_false, Bool.false_eq_true, if_true, if_false, ↓reduceIte, decide_true, decide_false, Nat.zero_add, Nat.reduceAdd, Nat.reduceSub, dd_lnbor, dd_lnown, dd_lnbrw, dd_plT, dd_rdT, dd_lnT, dd_dvT, dd_itT, dd_isT, dd_tyT, dd_lenT, dd_esT, dd_tpT, dd_lsT, dd_plB, dd_rdB, dd_lnB, dd_dvB, dd_icB, dd_f4B, dd_f5B, dd_f6B, hb, show ¬ (0 : Int) < ((0 : Nat) : Int) by omega, decide_false]
    · have hx : ixD (enT o) (.int ((i : Nat) - 1)) = some (.int (o[i - 1] : Nat)) := by
        have : ixD (enT o) (.int ((i - 1 : Nat) : Int)) = some ((enI o)[i - 1]'(by rw [enI_len]; omega)) := ix_tup (l := enI o) (by rw [enI_len]; omega)
        rw [show ((i - 1 : Nat) : Int) = (i : Nat) - 1 by omega] at this
        rw [this]
        simp [enI]
      have hlt : o[i - 1] < v := by
        have := List.pairwise_iff_getElem.mp h1 (i - 1) i (by omega) hi (by omega)
        have hv2 := (List.getElem?_eq_some_iff.mp hv).2
        omega
      simp only [EV0, EV1, EV2, EV3, EV4, EV5, EV6, EV7, EV8, EV9, EV10, EV11, EV12, EV13, EV14, EV15, EV16, Option.bind_some, Option.bind_none, Option.map_some, Option.map_none, List.getElem?_cons_zero, List.getElem?_cons_succ, List.set_cons_zero, List.set_cons_succ, List.map_cons, List.map_nil, List.length_cons, List.length_nil, List.cons_append, List.nil_append, Bool.and_true, Bool.true_and, Bool.and_false, Bool.false_and, List.all_cons, List.all_nil, List.replicate, Bool.not_true, Bool.not_false, Bool.false_eq_true, if_true, if_false, ↓reduceIte, decide_true, decide_false, Nat.zero_add, Nat.reduceAdd, Nat.reduceSub, dd_lnbor, dd_lnown, dd_lnbrw, dd_plT, dd_rdT, dd_lnT, dd_dvT, dd_itT, dd_isT, dd_tyT, dd_lenT, dd_esT, dd_tpT, dd_lsT, dd_plB, dd_rdB, dd_lnB, dd_dvB, dd_icB, dd_f4B, dd_f5B, dd_f6B, hb, show (0 : Int) < ((i : Nat) : Int) by omega, decide_true, hx, show ¬ ((v : Nat) : Int) ≤ (o[i - 1] : Nat) by omega, decide_false])
  have he : enumL (enI o) = o.zipIdx.map fun p => D.tup [.int (p.2 : Nat), .int (p.1 : Nat)] := enum_map o
  unfold m_check_lot ir_check_lot
  rw [← he] at e
  have hen : ∀ z : Z, enB z (enT o) = some (enumL (enI o), z) := fun _ => rfl
  simp only [EV0, EV1, EV2, EV3, EV4, EV5, EV6, EV7, EV8, EV9, EV10, EV11, EV12, EV13, EV14, EV15, EV16, Option.bind_some, Option.bind_none, Option.map_some, Option.map_none, List.getElem?_cons_zero, List.getElem?_cons_succ, List.set_cons_zero, List.set_cons_succ, List.map_cons, List.map_nil, List.length_cons, List.length_nil, List.cons_append, List.nil_append, Bool.and_true, Bool.true_and, Bool.and_false, Bool.false_and, List.all_cons, List.all_nil, List.replicate, Bool.not_true, Bool.not_false, Bool.false_eq_true, if_true, if_false, ↓reduceIte, decide_true, decide_false, Nat.zero_add, Nat.reduceAdd, Nat.reduceSub, dd_lnbor, dd_lnown, dd_lnbrw, dd_plT, dd_rdT, dd_lnT, dd_dvT, dd_itT, dd_isT, dd_tyT, dd_lenT, dd_esT, dd_tpT, dd_lsT, dd_plB, dd_rdB, dd_lnB, dd_dvB, dd_icB, dd_f4B, dd_f5B, dd_f6B, hen, e]
theorem opposite_eq (s : List Nat) (S : Store) (hs : s.all sgn = true) (h1 : 1 ≤ s.length) (h8 : s.length ≤ 8) : m_opposite [.str s] S = some (.str (s.map flip1), S) := by
  have r := is_row_eq s s.length S (by omega)
  have t := turned_eq s S hs (by omega)
  rw [decide_eq_true rfl, hs] at r
  have a1 : (1 : Int) ≤ s.length := by omega
  have a2 : (s.length : Int) ≤ 8 := by omega
  unfold m_opposite ir_opposite
  simp only [EV0, EV1, EV2, EV3, EV4, EV5, EV6, EV7, EV8, EV9, EV10, EV11, EV12, EV13, EV14, EV15, EV16, Option.bind_some, Option.bind_none, Option.map_some, Option.map_none, List.getElem?_cons_zero, List.getElem?_cons_succ, List.set_cons_zero, List.set_cons_succ, List.map_cons, List.map_nil, List.length_cons, List.length_nil, List.cons_append, List.nil_append, Bool.and_true, Bool.true_and, Bool.and_false, Bool.false_and, List.all_cons, List.all_nil, List.replicate, Bool.not_true, Bool.not_false, Bool.false_eq_true, if_true, if_false, ↓reduceIte, decide_true, decide_false, Nat.zero_add, Nat.reduceAdd, Nat.reduceSub, dd_lnbor, dd_lnown, dd_lnbrw, dd_plT, dd_rdT, dd_lnT, dd_dvT, dd_itT, dd_isT, dd_tyT, dd_lenT, dd_esT, dd_tpT, dd_lsT, dd_plB, dd_rdB, dd_lnB, dd_dvB, dd_icB, dd_f4B, dd_f5B, dd_f6B, chn_if, a1, a2, decide_true, r, t]
theorem get_str {R : List (List Nat)} {k : Nat} (h : k < R.length) : (R.map D.str)[k]'(by rw [List.length_map]; exact h) = D.str (R.getD k []) := by
  rw [List.getElem_map, List.getD_eq_getElem?_getD, List.getElem?_eq_getElem h]
  rfl
theorem fusion_eq {L R : List (List Nat)} (h : Bk L R) (S : Store) (o : List Nat) (ho : o ∈ lots R.length) : m_fusion [bookD L R, enT o] S = some (.str (fuse (o.map fun k => R.getD k []) L.length), S) := by
  obtain ⟨h1, h2⟩ := (mem_lots _ o).mp ho
  have hl := lot_len ho
  have r20 := h.r20
  have e1 := check_lot_eq o R.length S ho
  have hc : evF fusion_c0 ([some (.imm (bookD L R)), some (.imm (enT o)), none], S) = some ((o.map fun k => R.getD k []).map D.str, ([some (.imm (bookD L R)), some (.imm (enT o)), none], S)) := by
    unfold fusion_c0
    rw [List.map_map]
    refine comp_map o (fun k => D.int (k : Nat)) _ rfl rfl (by omega) fun k hk => ⟨?_, rfl⟩
    have := ix_tup (l := R.map D.str) (k := k) (by rw [List.length_map]; exact h2 k hk)
    rw [get_str (h2 k hk)] at this
    simp only [EV0, EV1, EV2, EV3, EV4, EV5, EV6, EV7, EV8, EV9, EV10, EV11, EV12, EV13, EV14, EV15, EV16, Option.bind_some, Option.bind_none, Option.map_some, Option.map_none, List.getElem?_cons_zero, List.getElem?_cons_succ, List.set_cons_zero, List.set_cons_succ, List.map_cons, List.map_nil, List.length_cons, List.length_nil, List.cons_append, List.nil_append, Bool.and_true, Bool.true_and, Bool.and_false, Bool.false_and, List.all_cons, List.all_nil, List.replicate, Bool.not_true, Bool.not_false, Bool.false_eq_true, if_true, if_false, ↓reduceIte, decide_true, decide_false, Nat.zero_add, Nat.reduceAdd, Nat.reduceSub, dd_lnbor, dd_lnown, dd_lnbrw, dd_plT, dd_rdT, dd_lnT, dd_dvT, dd_itT, dd_isT, dd_tyT, dd_lenT, dd_esT, dd_tpT, dd_lsT, dd_plB, dd_rdB, dd_lnB, dd_dvB, dd_icB, dd_f4B, dd_f5B, dd_f6B, this]
    rfl
  have e2 := fused_eq (o.map fun k => R.getD k []) L.length S h.l8 (fun r hr => by
    obtain ⟨k, hk, rfl⟩ := List.mem_map.mp hr
    rw [List.getD_eq_getElem?_getD, List.getElem?_eq_getElem (h2 k hk)]
    exact (h.r _ (List.getElem_mem _)).1) (by simp; omega)
  unfold m_fusion ir_fusion
  simp only [EV0, EV1, EV2, EV3, EV4, EV5, EV6, EV7, EV8, EV9, EV10, EV11, EV12, EV13, EV14, EV15, EV16, Option.bind_some, Option.bind_none, Option.map_some, Option.map_none, List.getElem?_cons_zero, List.getElem?_cons_succ, List.set_cons_zero, List.set_cons_succ, List.map_cons, List.map_nil, List.length_cons, List.length_nil, List.cons_append, List.nil_append, Bool.and_true, Bool.true_and, Bool.and_false, Bool.false_and, List.all_cons, List.all_nil, List.replicate, Bool.not_true, Bool.not_false, Bool.false_eq_true, if_true, if_false, ↓reduceIte, decide_true, decide_false, Nat.zero_add, Nat.reduceAdd, Nat.reduceSub, dd_lnbor, dd_lnown, dd_lnbrw, dd_plT, dd_rdT, dd_lnT, dd_dvT, dd_itT, dd_isT, dd_tyT, dd_lenT, dd_esT, dd_tpT, dd_lsT, dd_plB, dd_rdB, dd_lnB, dd_dvB, dd_icB, dd_f4B, dd_f5B, dd_f6B, check_book_eq, List.length_map, e1, hc, e2]
end KK
set_option Elab.async false
set_option linter.all false
set_option maxRecDepth 100000
set_option maxHeartbeats 1000000
/-! P9: equality of the same data; books drawn; laws over purses -/
namespace KK
open PySem DE
theorem eqB_refl : ∀ (n : Nat) (d : D), dpt n d = true → eqB d d = true := by
  have hl : ∀ (n : Nat), (∀ d, dpt n d = true → eqB d d = true) → ∀ ds : List D, ds.all (dpt n) = true → eqBL ds ds = true := by
    intro n ih ds
    induction ds with
    | nil => intro _; simp [eqBL]
    | cons d ds ihd =>
      intro h
      rw [List.all_cons, Bool.and_eq_true] at h
      simp only [eqBL, ih d h.1, ihd h.2, Bool.and_self]
  intro n
  induction n with
  | zero => intro d h; cases d <;> first | (cases h; done) | simp [eqB]
  | succ n ih =>
    intro d h
    cases d with
    | lst ds => simp only [eqB]; exact hl n ih ds h
    | tup ds => simp only [eqB]; exact hl n ih ds h
    | _ => first | (cases h; done) | simp [eqB]
theorem eq_self {d : D} (h : shp d = true) : eqD d d = some (.bl true) := by
  unfold eqD
  rw [h, eqB_refl 32 d h]
  rfl
theorem ne_self {d : D} (h : shp d = true) : neD d d = some (.bl false) := by
  unfold neD
  rw [eq_self h]
  rfl
theorem shp_l {ds : List D} (h : ds.all (dpt 31) = true) : shp (.lst ds) = true := h
theorem shp_t {ds : List D} (h : ds.all (dpt 31) = true) : shp (.tup ds) = true := h
theorem purse_noh {c : MO} (h : Purse c) (n : Nat) : nohM n c = true := by
  obtain ⟨a, b, rfl, _⟩ := h
  rfl
/-- cells without cells -/
def Cl (S : Store) : Prop := ∀ x ∈ S, ∀ n, nohM n x = true
theorem Cl.all {S : Store} (h : Cl S) (n : Nat) : S.all (nohM n) = true := List.all_eq_true.mpr fun x hx => h x hx n
theorem Cl.app {S T : Store} (h : Cl S) (g : Cl T) : Cl (S ++ T) := fun x hx n => (List.mem_append.mp hx).elim (fun q => h x q n) fun q => g x q n
theorem Cl.one {c : MO} (h : Purse c) : Cl [c] := fun x hx n => by rw [List.mem_singleton.mp hx]; exact purse_noh h n
theorem Cl.pc {p : Store} {c : MO} (h : Cl p) (g : Purse c) : Cl (p ++ [c]) := h.app (Cl.one g)
theorem law_book_eq {c : MO} (hS : Purse c) (p r : Store) (least span most : Nat) (h1 : 1 ≤ least) (h8 : least + span ≤ 9) (hs : 0 < span) (hm : most ≤ 20) : ∃ L R c', m_law_book [.han p.length, .int (least : Nat), .int (span : Nat), .int (most : Nat)] (p ++ c :: r) = some (.tup [.lst (L.map D.str), .lst (R.map D.str)], p ++ c' :: r) ∧ Bk L R ∧ least ≤ L.length ∧ L.length < least + span ∧ R.length ≤ most ∧ Purse c' := by
  obtain ⟨d, c1, e1, hd, hc1⟩ := drawN_eq hS p r span hs (by omega)
  obtain ⟨L, c2, e2, hL, hN, hc2⟩ := labels_eq hc1 p r (least + d) (by omega)
  obtain ⟨R, c3, e3, hR, hr, hc3⟩ := rows_eq hc2 p r (least + d) most 9 (by omega) (by omega) (by omega) (by omega)
  refine ⟨L, R, c3, ?_, ⟨hN, by omega, by omega, fun row h => by rw [hL]; exact hr row h, by omega⟩, by omega, by omega, hR, hc3⟩
  have e2 : m_law_labels [.han p.length, .int ((least : Nat) + (d : Nat))] (p ++ c1 :: r) = some (.lst (L.map D.str), p ++ c2 :: r) := e2
  have e3 : m_law_rows [.han p.length, .int ((least : Nat) + (d : Nat)), .int (most : Nat), .int 9] (p ++ c2 :: r) = some (.lst (R.map D.str), p ++ c3 :: r) := e3
  unfold m_law_book ir_law_book
  simp only [EV0, EV1, EV2, EV3, EV4, EV5, EV6, EV7, EV8, EV9, EV10, EV11, EV12, EV13, EV14, EV15, EV16, Option.bind_some, Option.bind_none, Option.map_some, Option.map_none, List.getElem?_cons_zero, List.getElem?_cons_succ, List.set_cons_zero, List.set_cons_succ, List.map_cons, List.map_nil, List.length_cons, List.length_nil, List.cons_append, List.nil_append, Bool.and_true, Bool.true_and, Bool.and_false, Bool.false_and, List.all_cons, List.all_nil, List.replicate, Bool.not_true, Bool.not_false, Bool.false_eq_true, if_true, if_false, ↓reduceIte, decide_true, decide_false, Nat.zero_add, Nat.reduceAdd, Nat.reduceSub, dd_lnbor, dd_lnown, dd_lnbrw, dd_plT, dd_rdT, dd_lnT, dd_dvT, dd_itT, dd_isT, dd_tyT, dd_lenT, dd_esT, dd_tpT, dd_lsT, dd_plB, dd_rdB, dd_lnB, dd_dvB, dd_icB, dd_f4B, dd_f5B, dd_f6B, e1, e2, e3]
/-- how a law over purses ends: R is its right, the count of purses is at least two and at most top -/
theorem spots {n top : Nat} (h : 2 ≤ top) : ∃ m : Nat, m ≤ top ∧ (if (if (top : Int) < (n : Nat) then (top : Int) else (n : Nat)) > 2 then (if (top : Int) < (n : Nat) then (top : Int) else (n : Nat)) else 2) = (m : Nat) := by
  by_cases h1 : (top : Int) < (n : Nat)
  · rw [if_pos h1]
    by_cases h2 : (top : Int) > 2
    · rw [if_pos h2]; exact ⟨top, Nat.le_refl _, rfl⟩
    · rw [if_neg h2]; exact ⟨2, h, rfl⟩
  · rw [if_neg h1]
    by_cases h2 : ((n : Nat) : Int) > 2
    · rw [if_pos h2]; exact ⟨n, by omega, rfl⟩
    · rw [if_neg h2]; exact ⟨2, h, rfl⟩
theorem all_true {l : List D} (h : ∀ x ∈ l, x = .bl true) : allD (.lst l) = some (.bl true) := by
  have e : l = (List.replicate l.length true).map D.bl := by
    rw [List.map_replicate]
    exact List.eq_replicate_iff.mpr ⟨rfl, h⟩
  rw [e, allD_map]
  simp
end KK
set_option Elab.async false
set_option linter.all false
set_option maxRecDepth 100000
set_option maxHeartbeats 1000000
/-! P10: rankings; the program's holds and fits; how a law over purses ends -/
namespace KK
open PySem DE
theorem perm_range {m : Nat} {o : List Nat} (h1 : o.Nodup) (h2 : o.length = m) (h3 : ∀ k ∈ o, k < m) : o.Perm (List.range m) := by
  rw [List.perm_iff_count]
  intro a
  rw [h1.count, (List.nodup_range).count]
  have : a ∈ o ↔ a ∈ List.range m := by
    rw [List.mem_range]
    refine ⟨h3 a, fun ha => ?_⟩
    by_cases hm : a ∈ o
    · exact hm
    · have := nodup_le m (a :: o) (List.nodup_cons.mpr ⟨hm, h1⟩) fun k hk => by
        rcases List.mem_cons.mp hk with rfl | hk
        · exact ha
        · exact h3 k hk
      simp at this
      omega
  simp only [this]
theorem perm_of_perms {m : Nat} {o : List Nat} (h : o ∈ perms m) : o.Perm (List.range m) := by
  obtain ⟨h1, h2, h3⟩ := mem_perms.mp h
  exact perm_range h1 h2 h3
theorem perms_of_perm {m : Nat} {o : List Nat} (h : o.Perm (List.range m)) : o ∈ perms m :=
  mem_perms.mpr ⟨h.nodup_iff.mpr List.nodup_range, by simpa using h.length_eq, fun k hk => by simpa using h.mem_iff.mp hk⟩
theorem intsD_enI (o : List Nat) : intsD (enI o) = some (o.map fun k => ((k : Nat) : Int)) := by
  have := intsD_map (o.map fun k => ((k : Nat) : Int))
  rw [List.map_map] at this
  exact this
theorem srt_range {m : Nat} {o : List Nat} (h : o.Perm (List.range m)) : srtI (o.map fun k => ((k : Nat) : Int)) = (List.range m).map fun k => ((k : Nat) : Int) := by
  refine (srtI_of ((h.map _).symm) ?_).symm
  rw [List.pairwise_map]
  exact List.pairwise_lt_range.imp fun h => by omega
theorem holds_for_eq (row o : List Nat) (S : Store) (ho : ∀ k ∈ o, k < row.length) : m_holds_for [.str row, enT o] S = some (.bl (hold row o), S) := by
  have key : ∀ (p : List Nat) (r0 : D) (o2 : Option DV), (∀ k ∈ p, k < row.length) → (hold row p = true ∧ ∃ o2' : Option DV, forL (evG (.nm 2)) (evSs holds_for_b0) (enI p) ([some (.imm (.str row)), some (.imm r0), o2], S) = some (.nx, ([some (.imm (.str row)), some (.imm r0), o2'], S))) ∨ ∃ o2' : Option DV, forL (evG (.nm 2)) (evSs holds_for_b0) (enI p) ([some (.imm (.str row)), some (.imm r0), o2], S) = some (.rt (.bl (hold row p)), ([some (.imm (.str row)), some (.imm r0), o2'], S)) := by
    intro p r0
    induction p with
    | nil => intro o2 _; exact .inl ⟨rfl, o2, rfl⟩
    | cons k p ih =>
      intro o2 hk
      have hx := ix_row (hk k (List.mem_cons_self ..))
      have hg : evG (.nm 2) (.int (k : Nat)) ([some (.imm (.str row)), some (.imm r0), o2], S) = some ([some (.imm (.str row)), some (.imm r0), some (.imm (.int (k : Nat)))], S) := rfl
      by_cases h : row.getD k 46 = 46
      · have hb : evSs holds_for_b0 ([some (.imm (.str row)), some (.imm r0), some (.imm (.int (k : Nat)))], S) = some (.nx, ([some (.imm (.str row)), some (.imm r0), some (.imm (.int (k : Nat)))], S)) := by
          unfold holds_for_b0
          simp only [EV0, EV1, EV2, EV3, EV4, EV5, EV6, EV7, EV8, EV9, EV10, EV11, EV12, EV13, EV14, EV15, EV16, Option.bind_some, Option.bind_none, Option.map_some, Option.map_none, List.getElem?_cons_zero, List.getElem?_cons_succ, List.set_cons_zero, List.set_cons_succ, List.map_cons, List.map_nil, List.length_cons, List.length_nil, List.cons_append, List.nil_append, Bool.and_true, Bool.true_and, Bool.and_false, Bool.false_and, List.all_cons, List.all_nil, List.replicate, Bool.not_true, Bool.not_false, Bool.false_eq_true, if_true, if_false, ↓reduceIte, decide_true, decide_false, Nat.zero_add, Nat.reduceAdd, Nat.reduceSub, dd_lnbor, dd_lnown, dd_lnbrw, dd_plT, dd_rdT, dd_lnT, dd_dvT, dd_itT, dd_isT, dd_tyT, dd_lenT, dd_esT, dd_tpT, dd_lsT, dd_plB, dd_rdB, dd_lnB, dd_dvB, dd_icB, dd_f4B, dd_f5B, dd_f6B, hx, h, decide_true]
        have hh : hold row (k :: p) = hold row p := by rw [hold, if_pos h]
        have hf : forL (evG (.nm 2)) (evSs holds_for_b0) (enI (k :: p)) ([some (.imm (.str row)), some (.imm r0), o2], S) = forL (evG (.nm 2)) (evSs holds_for_b0) (enI p) ([some (.imm (.str row)), some (.imm r0), some (.imm (.int (k : Nat)))], S) := by
          show (forL _ _ (D.int (k : Nat) :: enI p) _) = _
          rw [forL, hg, Option.bind_some, hb, Option.bind_some]
        rw [hf, hh]
        exact ih _ fun j hj => hk j (List.mem_cons_of_mem _ hj)
      · right
        have hb : evSs holds_for_b0 ([some (.imm (.str row)), some (.imm r0), some (.imm (.int (k : Nat)))], S) = some (.rt (.bl (row.getD k 46 == 43)), ([some (.imm (.str row)), some (.imm r0), some (.imm (.int (k : Nat)))], S)) := by
          unfold holds_for_b0
          simp only [EV0, EV1, EV2, EV3, EV4, EV5, EV6, EV7, EV8, EV9, EV10, EV11, EV12, EV13, EV14, EV15, EV16, Option.bind_some, Option.bind_none, Option.map_some, Option.map_none, List.getElem?_cons_zero, List.getElem?_cons_succ, List.set_cons_zero, List.set_cons_succ, List.map_cons, List.map_nil, List.length_cons, List.length_nil, List.cons_append, List.nil_append, Bool.and_true, Bool.true_and, Bool.and_false, Bool.false_and, List.all_cons, List.all_nil, List.replicate, Bool.not_true, Bool.not_false, Bool.false_eq_true, if_true, if_false, ↓reduceIte, decide_true, decide_false, Nat.zero_add, Nat.reduceAdd, Nat.reduceSub, dd_lnbor, dd_lnown, dd_lnbrw, dd_plT, dd_rdT, dd_lnT, dd_dvT, dd_itT, dd_isT, dd_tyT, dd_lenT, dd_esT, dd_tpT, dd_lsT, dd_plB, dd_rdB, dd_lnB, dd_dvB, dd_icB, dd_f4B, dd_f5B, dd_f6B, hx, h, List.cons.injEq, and_true, decide_false]
          rfl
        refine ⟨some (.imm (.int (k : Nat))), ?_⟩
        show (forL _ _ (D.int (k : Nat) :: enI p) _) = _
        rw [forL, hg, Option.bind_some, hb, Option.bind_some, hold, if_neg h]
  unfold m_holds_for ir_holds_for
  rcases key o (enT o) none ho with ⟨h1, o2', e⟩ | ⟨o2', e⟩
  · simp only [EV0, EV1, EV2, EV3, EV4, EV5, EV6, EV7, EV8, EV9, EV10, EV11, EV12, EV13, EV14, EV15, EV16, Option.bind_some, Option.bind_none, Option.map_some, Option.map_none, List.getElem?_cons_zero, List.getElem?_cons_succ, List.set_cons_zero, List.set_cons_succ, List.map_cons, List.map_nil, List.length_cons, List.length_nil, List.cons_append, List.nil_append, Bool.and_true, Bool.true_and, Bool.and_false, Bool.false_and, List.all_cons, List.all_nil, List.replicate, Bool.not_true, Bool.not_false, Bool.false_eq_true, if_true, if_false, ↓reduceIte, decide_true, decide_false, Nat.zero_add, Nat.reduceAdd, Nat.reduceSub, dd_lnbor, dd_lnown, dd_lnbrw, dd_plT, dd_rdT, dd_lnT, dd_dvT, dd_itT, dd_isT, dd_tyT, dd_lenT, dd_esT, dd_tpT, dd_lsT, dd_plB, dd_rdB, dd_lnB, dd_dvB, dd_icB, dd_f4B, dd_f5B, dd_f6B, e, h1]
  · simp only [EV0, EV1, EV2, EV3, EV4, EV5, EV6, EV7, EV8, EV9, EV10, EV11, EV12, EV13, EV14, EV15, EV16, Option.bind_some, Option.bind_none, Option.map_some, Option.map_none, List.getElem?_cons_zero, List.getElem?_cons_succ, List.set_cons_zero, List.set_cons_succ, List.map_cons, List.map_nil, List.length_cons, List.length_nil, List.cons_append, List.nil_append, Bool.and_true, Bool.true_and, Bool.and_false, Bool.false_and, List.all_cons, List.all_nil, List.replicate, Bool.not_true, Bool.not_false, Bool.false_eq_true, if_true, if_false, ↓reduceIte, decide_true, decide_false, Nat.zero_add, Nat.reduceAdd, Nat.reduceSub, dd_lnbor, dd_lnown, dd_lnbrw, dd_plT, dd_rdT, dd_lnT, dd_dvT, dd_itT, dd_isT, dd_tyT, dd_lenT, dd_esT, dd_tpT, dd_lsT, dd_plB, dd_rdB, dd_lnB, dd_dvB, dd_icB, dd_f4B, dd_f5B, dd_f6B, e]
theorem is_ranking_eq {m : Nat} {o : List Nat} (h : o.Perm (List.range m)) (hm : m ≤ 8) (S : Store) : m_is_ranking [enT o, .int (m : Nat)] S = some (.bl true, S) := by
  have hl : o.length = m := by simpa using h.length_eq
  have hc : evF is_ranking_c0 ([some (.imm (enT o)), some (.imm (.int (m : Nat))), none], S) = some (o.map (fun _ => D.bl true), ([some (.imm (enT o)), some (.imm (.int (m : Nat))), none], S)) := by
    unfold is_ranking_c0
    refine comp_map o (fun k => D.int (k : Nat)) _ rfl rfl (by omega) fun k hk => ⟨?_, rfl⟩
    have hkm : k < m := by simpa using h.mem_iff.mp hk
    have hb := is_between_i (k : Nat) 0 ((m : Nat) - 1) S
    rw [decide_eq_true (show (0 : Int) ≤ (k : Nat) by omega), decide_eq_true (show ((k : Nat) : Int) ≤ (m : Nat) - 1 by omega)] at hb
    simp only [EV0, EV1, EV2, EV3, EV4, EV5, EV6, EV7, EV8, EV9, EV10, EV11, EV12, EV13, EV14, EV15, EV16, Option.bind_some, Option.bind_none, Option.map_some, Option.map_none, List.getElem?_cons_zero, List.getElem?_cons_succ, List.set_cons_zero, List.set_cons_succ, List.map_cons, List.map_nil, List.length_cons, List.length_nil, List.cons_append, List.nil_append, Bool.and_true, Bool.true_and, Bool.and_false, Bool.false_and, List.all_cons, List.all_nil, List.replicate, Bool.not_true, Bool.not_false, Bool.false_eq_true, if_true, if_false, ↓reduceIte, decide_true, decide_false, Nat.zero_add, Nat.reduceAdd, Nat.reduceSub, dd_lnbor, dd_lnown, dd_lnbrw, dd_plT, dd_rdT, dd_lnT, dd_dvT, dd_itT, dd_isT, dd_tyT, dd_lenT, dd_esT, dd_tpT, dd_lsT, dd_plB, dd_rdB, dd_lnB, dd_dvB, dd_icB, dd_f4B, dd_f5B, dd_f6B, hb]
  have hall := allD_f o (fun _ => true)
  have hall2 : o.all (fun _ => true) = true := by simp
  rw [hall2] at hall
  have hs : sortedD (enT o) = some (enI (List.range m)) := by
    unfold sortedD enT
    simp only [intsD_enI, List.length_map, show Nat.blt o.length 64 = true from Nat.ble_eq_true_of_le (by omega), if_true, srt_range h, List.map_map]
    rfl
  have he := eq_self (d := .lst (enI (List.range m))) (shp_l (dpts_int (fun k : Nat => (k : Int)) _))
  unfold m_is_ranking ir_is_ranking
  simp only [EV0, EV1, EV2, EV3, EV4, EV5, EV6, EV7, EV8, EV9, EV10, EV11, EV12, EV13, EV14, EV15, EV16, Option.bind_some, Option.bind_none, Option.map_some, Option.map_none, List.getElem?_cons_zero, List.getElem?_cons_succ, List.set_cons_zero, List.set_cons_succ, List.map_cons, List.map_nil, List.length_cons, List.length_nil, List.cons_append, List.nil_append, Bool.and_true, Bool.true_and, Bool.and_false, Bool.false_and, List.all_cons, List.all_nil, List.replicate, Bool.not_true, Bool.not_false, Bool.false_eq_true, if_true, if_false, ↓reduceIte, decide_true, decide_false, Nat.zero_add, Nat.reduceAdd, Nat.reduceSub, dd_lnbor, dd_lnown, dd_lnbrw, dd_plT, dd_rdT, dd_lnT, dd_dvT, dd_itT, dd_isT, dd_tyT, dd_lenT, dd_esT, dd_tpT, dd_lsT, dd_plB, dd_rdB, dd_lnB, dd_dvB, dd_icB, dd_f4B, dd_f5B, dd_f6B, hl, decide_true, hc, hall, hs, rgDs_nat (show m ≤ 1000000 by omega), he]
theorem check_ranking_eq {m : Nat} {o : List Nat} (h : o.Perm (List.range m)) (hm : m ≤ 8) (S : Store) : m_check_ranking [enT o, .int (m : Nat)] S = some (.non, S) := by
  have e := is_ranking_eq h hm S
  unfold m_check_ranking ir_check_ranking
  simp only [EV0, EV1, EV2, EV3, EV4, EV5, EV6, EV7, EV8, EV9, EV10, EV11, EV12, EV13, EV14, EV15, EV16, Option.bind_some, Option.bind_none, Option.map_some, Option.map_none, List.getElem?_cons_zero, List.getElem?_cons_succ, List.set_cons_zero, List.set_cons_succ, List.map_cons, List.map_nil, List.length_cons, List.length_nil, List.cons_append, List.nil_append, Bool.and_true, Bool.true_and, Bool.and_false, Bool.false_and, List.all_cons, List.all_nil, List.replicate, Bool.not_true, Bool.not_false, Bool.false_eq_true, if_true, if_false, ↓reduceIte, decide_true, decide_false, Nat.zero_add, Nat.reduceAdd, Nat.reduceSub, dd_lnbor, dd_lnown, dd_lnbrw, dd_plT, dd_rdT, dd_lnT, dd_dvT, dd_itT, dd_isT, dd_tyT, dd_lenT, dd_esT, dd_tpT, dd_lsT, dd_plB, dd_rdB, dd_lnB, dd_dvB, dd_icB, dd_f4B, dd_f5B, dd_f6B, e]
theorem check_row_eq {L R : List (List Nat)} (hB : Bk L R) {row : List Nat} (h : Row L.length row) (S : Store) : m_check_row [bookD L R, .str row] S = some (.non, S) := by
  have l8 := hB.l8
  have e := is_row_eq row (L.length : Nat) S (by rw [h.1]; omega)
  rw [h.1, h.2, decide_eq_true rfl] at e
  unfold m_check_row ir_check_row
  simp only [EV0, EV1, EV2, EV3, EV4, EV5, EV6, EV7, EV8, EV9, EV10, EV11, EV12, EV13, EV14, EV15, EV16, Option.bind_some, Option.bind_none, Option.map_some, Option.map_none, List.getElem?_cons_zero, List.getElem?_cons_succ, List.set_cons_zero, List.set_cons_succ, List.map_cons, List.map_nil, List.length_cons, List.length_nil, List.cons_append, List.nil_append, Bool.and_true, Bool.true_and, Bool.and_false, Bool.false_and, List.all_cons, List.all_nil, List.replicate, Bool.not_true, Bool.not_false, Bool.false_eq_true, if_true, if_false, ↓reduceIte, decide_true, decide_false, Nat.zero_add, Nat.reduceAdd, Nat.reduceSub, dd_lnbor, dd_lnown, dd_lnbrw, dd_plT, dd_rdT, dd_lnT, dd_dvT, dd_itT, dd_isT, dd_tyT, dd_lenT, dd_esT, dd_tpT, dd_lsT, dd_plB, dd_rdB, dd_lnB, dd_dvB, dd_icB, dd_f4B, dd_f5B, dd_f6B, List.length_map, e]
theorem holds_eq {L R : List (List Nat)} (hB : Bk L R) {row o : List Nat} (h : Row L.length row) (ho : o.Perm (List.range L.length)) (S : Store) : m_holds [bookD L R, .str row, enT o] S = some (.bl (hold row o), S) := by
  have e1 := check_row_eq hB h S
  have e2 := check_ranking_eq ho hB.l8 S
  have e3 := holds_for_eq row o S fun k hk => by rw [h.1]; simpa using ho.mem_iff.mp hk
  unfold m_holds ir_holds
  simp only [EV0, EV1, EV2, EV3, EV4, EV5, EV6, EV7, EV8, EV9, EV10, EV11, EV12, EV13, EV14, EV15, EV16, Option.bind_some, Option.bind_none, Option.map_some, Option.map_none, List.getElem?_cons_zero, List.getElem?_cons_succ, List.set_cons_zero, List.set_cons_succ, List.map_cons, List.map_nil, List.length_cons, List.length_nil, List.cons_append, List.nil_append, Bool.and_true, Bool.true_and, Bool.and_false, Bool.false_and, List.all_cons, List.all_nil, List.replicate, Bool.not_true, Bool.not_false, Bool.false_eq_true, if_true, if_false, ↓reduceIte, decide_true, decide_false, Nat.zero_add, Nat.reduceAdd, Nat.reduceSub, dd_lnbor, dd_lnown, dd_lnbrw, dd_plT, dd_rdT, dd_lnT, dd_dvT, dd_itT, dd_isT, dd_tyT, dd_lenT, dd_esT, dd_tpT, dd_lsT, dd_plB, dd_rdB, dd_lnB, dd_dvB, dd_icB, dd_f4B, dd_f5B, dd_f6B, check_book_eq, e1, List.length_map, e2, e3]
theorem fits_eq {L R : List (List Nat)} (hB : Bk L R) {o : List Nat} (ho : o.Perm (List.range L.length)) (S : Store) : m_fits [bookD L R, enT o] S = some (.bl (R.all fun r => hold r o), S) := by
  have r20 := hB.r20
  have e2 := check_ranking_eq ho hB.l8 S
  have hc : evF fits_c0 ([some (.imm (bookD L R)), some (.imm (enT o)), none], S) = some (R.map (fun r => D.bl (hold r o)), ([some (.imm (bookD L R)), some (.imm (enT o)), none], S)) := by
    unfold fits_c0
    refine comp_map R D.str _ rfl rfl (by omega) fun r hr => ⟨?_, rfl⟩
    have e3 := holds_for_eq r o S fun k hk => by rw [(hB.r r hr).1]; simpa using ho.mem_iff.mp hk
    simp only [EV0, EV1, EV2, EV3, EV4, EV5, EV6, EV7, EV8, EV9, EV10, EV11, EV12, EV13, EV14, EV15, EV16, Option.bind_some, Option.bind_none, Option.map_some, Option.map_none, List.getElem?_cons_zero, List.getElem?_cons_succ, List.set_cons_zero, List.set_cons_succ, List.map_cons, List.map_nil, List.length_cons, List.length_nil, List.cons_append, List.nil_append, Bool.and_true, Bool.true_and, Bool.and_false, Bool.false_and, List.all_cons, List.all_nil, List.replicate, Bool.not_true, Bool.not_false, Bool.false_eq_true, if_true, if_false, ↓reduceIte, decide_true, decide_false, Nat.zero_add, Nat.reduceAdd, Nat.reduceSub, dd_lnbor, dd_lnown, dd_lnbrw, dd_plT, dd_rdT, dd_lnT, dd_dvT, dd_itT, dd_isT, dd_tyT, dd_lenT, dd_esT, dd_tpT, dd_lsT, dd_plB, dd_rdB, dd_lnB, dd_dvB, dd_icB, dd_f4B, dd_f5B, dd_f6B, e3]
  unfold m_fits ir_fits
  simp only [EV0, EV1, EV2, EV3, EV4, EV5, EV6, EV7, EV8, EV9, EV10, EV11, EV12, EV13, EV14, EV15, EV16, Option.bind_some, Option.bind_none, Option.map_some, Option.map_none, List.getElem?_cons_zero, List.getElem?_cons_succ, List.set_cons_zero, List.set_cons_succ, List.map_cons, List.map_nil, List.length_cons, List.length_nil, List.cons_append, List.nil_append, Bool.and_true, Bool.true_and, Bool.and_false, Bool.false_and, List.all_cons, List.all_nil, List.replicate, Bool.not_true, Bool.not_false, Bool.false_eq_true, if_true, if_false, ↓reduceIte, decide_true, decide_false, Nat.zero_add, Nat.reduceAdd, Nat.reduceSub, dd_lnbor, dd_lnown, dd_lnbrw, dd_plT, dd_rdT, dd_lnT, dd_dvT, dd_itT, dd_isT, dd_tyT, dd_lenT, dd_esT, dd_tpT, dd_lsT, dd_plB, dd_rdB, dd_lnB, dd_dvB, dd_icB, dd_f4B, dd_f5B, dd_f6B, check_book_eq, List.length_map, e2, hc, allD_f]
/-- just one of a row and its opposite holds, unless all signs are . -/
theorem flip_get (row : List Nat) (k : Nat) (h : k < row.length) : (row.map flip1).getD k 46 = flip1 (row.getD k 46) := by
  simp [List.getD_eq_getElem?_getD, h]
theorem hold_flip {m : Nat} {row : List Nat} (hr : Row m row) : ∀ o : List Nat, (∀ k ∈ o, k < m) → hold row o = hold (row.map flip1) o → ∀ k ∈ o, row.getD k 46 = 46
  | [], _, _, k, hk => by cases hk
  | j :: o, ho, h, k, hk => by
    have hj : j < row.length := by rw [hr.1]; exact ho j (List.mem_cons_self ..)
    have hin : row.getD j 46 ∈ row := by
      rw [List.getD_eq_getElem?_getD, List.getElem?_eq_getElem hj]
      exact List.getElem_mem hj
    unfold hold at h
    rw [flip_get row j hj] at h
    rcases hr.mem hin with e | e | e
    · rw [e] at h; simp [flip1] at h
    · rw [e] at h; simp [flip1] at h
    · rcases List.mem_cons.mp hk with rfl | hk
      · exact e
      · rw [e] at h
        simp only [if_true, show flip1 46 = 46 from rfl] at h
        exact hold_flip hr o (fun i hi => ho i (List.mem_cons_of_mem _ hi)) h k hk
theorem dots_of {m : Nat} {row : List Nat} (hr : row.length = m) (h : ∀ k, k < m → row.getD k 46 = 46) : row = List.replicate m 46 := by
  refine List.eq_replicate_iff.mpr ⟨hr, fun c hc => ?_⟩
  obtain ⟨i, hi, rfl⟩ := List.mem_iff_getElem.mp hc
  have := h i (by omega)
  rwa [List.getD_eq_getElem?_getD, List.getElem?_eq_getElem hi] at this
theorem mul_dot {n : Nat} (h : n ≤ 1000000) : mulD (.str [46]) (.int (n : Nat)) = some (.str (List.replicate n 46)) := by
  simp only [mulD, show (-9223372036854775808 ≤ ((n : Nat) : Int) ∧ ((n : Nat) : Int) ≤ 16777216) = True by simp; omega, if_true, Int.toNat_natCast]
/-- how a law over purses ends -/
def lawT (t : Nat) (g : Fn) : Ss := .cons (.ret (.bc "all" (f1 allD) (.cons (.fr (.comp (.rg1 (.bc "max" (f2 max2D) (.cons (.cst (.int 2)) (.cons (.bc "min" (f2 min2D) (.cons (.bc "len" (f1 lenD) (.cons (.var 0) .nil)) (.cons (.cst (.int (t : Nat))) .nil))) .nil)))) (.nm 1) .no (.call "_law_right" 1 g (.cons (.call "_law_purse" 2 m_law_purse (.cons (.var 0) (.cons (.var 1) .nil))) .nil)) [("_law_spot", 1)])) .nil))) .nil
theorem law_end {t : Nat} {g : Fn} (h2 : 2 ≤ t) (h4 : t ≤ 4) (hg : ∀ (c : MO) (p : Store), Purse c → Cl p → ∃ c', g [.han p.length] (p ++ [c]) = some (.bl true, p ++ [c']) ∧ Purse c') (ns : List Int) : ∃ S, fnD 2 (lawT t g) [.lst (ns.map .int)] [] = some (.bl true, S) := by
  obtain ⟨m, hm, em⟩ := spots (n := ns.length) (top := t) h2
  obtain ⟨ys, r', S', e, ⟨hy, rfl, hS'⟩, hl⟩ := comp_acc (it := .rg1 (.bc "max" (f2 max2D) (.cons (.cst (.int 2)) (.cons (.bc "min" (f2 min2D) (.cons (.bc "len" (f1 lenD) (.cons (.var 0) .nil)) (.cons (.cst (.int (t : Nat))) .nil))) .nil)))) (x := "_law_spot") (i := 1) (e := .call "_law_right" 1 g (.cons (.call "_law_purse" 2 m_law_purse (.cons (.var 0) (.cons (.var 1) .nil))) .nil)) (ρ := [some (.imm (.lst (ns.map .int))), none]) (S := []) (List.range m) (fun k => D.int (k : Nat))
    (fun acc ρ S => (∀ x ∈ acc, x = .bl true) ∧ ρ = [some (.imm (.lst (ns.map .int))), none] ∧ Cl S)
    (evI_rng (by
      simp only [EV0, EV1, EV2, EV3, EV4, EV5, EV6, EV7, EV8, EV9, EV10, EV11, EV12, EV13, EV14, EV15, EV16, Option.bind_some, Option.bind_none, Option.map_some, Option.map_none, List.getElem?_cons_zero, List.getElem?_cons_succ, List.set_cons_zero, List.set_cons_succ, List.map_cons, List.map_nil, List.length_cons, List.length_nil, List.cons_append, List.nil_append, Bool.and_true, Bool.true_and, Bool.and_false, Bool.false_and, List.all_cons, List.all_nil, List.replicate, Bool.not_true, Bool.not_false, Bool.false_eq_true, if_true, if_false, ↓reduceIte, decide_true, decide_false, Nat.zero_add, Nat.reduceAdd, Nat.reduceSub, dd_lnbor, dd_lnown, dd_lnbrw, dd_plT, dd_rdT, dd_lnT, dd_dvT, dd_itT, dd_isT, dd_tyT, dd_lenT, dd_esT, dd_tpT, dd_lsT, dd_plB, dd_rdB, dd_lnB, dd_dvB, dd_icB, dd_f4B, dd_f5B, dd_f6B, min2D, max2D, List.length_map]
      rw [em]) (by omega)) ⟨fun _ h => (by cases h), rfl, fun _ h => (by cases h)⟩ (by simp; omega) (fun acc k ρ S hk hI => by
      obtain ⟨hy, rfl, hS⟩ := hI
      have hk1 : k < m := by
        have := List.mem_of_getElem? hk
        simpa using this
      obtain ⟨c, e1, hc⟩ := purse_cell S ns k (by omega)
      obtain ⟨c', e2, hc'⟩ := hg c S hc hS
      refine ⟨.bl true, [some (.imm (.lst (ns.map .int))), some (.imm (.int (k : Nat)))], S ++ [c'], ?_, rfl, fun x hx => ?_, rfl, hS.pc hc'⟩
      · simp only [EV0, EV1, EV2, EV3, EV4, EV5, EV6, EV7, EV8, EV9, EV10, EV11, EV12, EV13, EV14, EV15, EV16, Option.bind_some, Option.bind_none, Option.map_some, Option.map_none, List.getElem?_cons_zero, List.getElem?_cons_succ, List.set_cons_zero, List.set_cons_succ, List.map_cons, List.map_nil, List.length_cons, List.length_nil, List.cons_append, List.nil_append, Bool.and_true, Bool.true_and, Bool.and_false, Bool.false_and, List.all_cons, List.all_nil, List.replicate, Bool.not_true, Bool.not_false, Bool.false_eq_true, if_true, if_false, ↓reduceIte, decide_true, decide_false, Nat.zero_add, Nat.reduceAdd, Nat.reduceSub, dd_lnbor, dd_lnown, dd_lnbrw, dd_plT, dd_rdT, dd_lnT, dd_dvT, dd_itT, dd_isT, dd_tyT, dd_lenT, dd_esT, dd_tpT, dd_lsT, dd_plB, dd_rdB, dd_lnB, dd_dvB, dd_icB, dd_f4B, dd_f5B, dd_f6B, e1, e2]
      · rcases List.mem_append.mp hx with h | h
        · exact hy x h
        · exact List.mem_singleton.mp h)
  refine ⟨S', ?_⟩
  have e : evF (.comp (.rg1 (.bc "max" (f2 max2D) (.cons (.cst (.int 2)) (.cons (.bc "min" (f2 min2D) (.cons (.bc "len" (f1 lenD) (.cons (.var 0) .nil)) (.cons (.cst (.int (t : Nat))) .nil))) .nil)))) (.nm 1) .no (.call "_law_right" 1 g (.cons (.call "_law_purse" 2 m_law_purse (.cons (.var 0) (.cons (.var 1) .nil))) .nil)) [("_law_spot", 1)]) ([some (.imm (.lst (ns.map .int))), none], []) = some (ys, ([some (.imm (.lst (ns.map .int))), none], S')) := e
  unfold lawT
  simp only [EV0, EV1, EV2, EV3, EV4, EV5, EV6, EV7, EV8, EV9, EV10, EV11, EV12, EV13, EV14, EV15, EV16, Option.bind_some, Option.bind_none, Option.map_some, Option.map_none, List.getElem?_cons_zero, List.getElem?_cons_succ, List.set_cons_zero, List.set_cons_succ, List.map_cons, List.map_nil, List.length_cons, List.length_nil, List.cons_append, List.nil_append, Bool.and_true, Bool.true_and, Bool.and_false, Bool.false_and, List.all_cons, List.all_nil, List.replicate, Bool.not_true, Bool.not_false, Bool.false_eq_true, if_true, if_false, ↓reduceIte, decide_true, decide_false, Nat.zero_add, Nat.reduceAdd, Nat.reduceSub, dd_lnbor, dd_lnown, dd_lnbrw, dd_plT, dd_rdT, dd_lnT, dd_dvT, dd_itT, dd_isT, dd_tyT, dd_lenT, dd_esT, dd_tpT, dd_lsT, dd_plB, dd_rdB, dd_lnB, dd_dvB, dd_icB, dd_f4B, dd_f5B, dd_f6B, e, all_true hy]
end KK
set_option Elab.async false
set_option linter.all false
set_option maxRecDepth 100000
set_option maxHeartbeats 1000000
/-! P11: layers, in plain words -/
namespace KK
open PySem DE
def sg (row : List Nat) (k : Nat) : Nat := row.getD k 46
def rowsOf (R : List (List Nat)) (l : List Nat) : List (List Nat) := l.map fun k => R.getD k []
def nextL (X : List (List Nat)) (placed : List Nat) (m : Nat) : List Nat := (List.range m).filter fun r => !decide (r ∈ placed) && !(X.any fun row => decide (row.getD r 46 = 45))
def keepL (R : List (List Nat)) (ly l : List Nat) : List Nat := l.filter fun k => !(ly.any fun r => decide ((R.getD k []).getD r 46 = 43))
/-- the layers found, the rules placed, the rows open -/
def wk (R : List (List Nat)) (m : Nat) : Nat → List (List Nat) → List Nat → List Nat → List (List Nat) × List Nat × List Nat
  | 0, f, p, l => (f, p, l)
  | n + 1, f, p, l => if l = [] then (f, p, l) else if nextL (rowsOf R l) p m = [] then (f, p, l) else wk R m n (f ++ [nextL (rowsOf R l) p m]) (p ++ nextL (rowsOf R l) p m) (keepL R (nextL (rowsOf R l) p m) l)
def open0 (R : List (List Nat)) : List Nat := (List.range R.length).filter fun k => (R.getD k []).any fun c => decide (c = 43) || decide (c = 45)
/-! ### orders through layers -/
def ThruA : List (List Nat) → List Nat → Prop
  | [], a => a = []
  | ly :: f, a => ∃ b c, a = b ++ c ∧ b.Perm ly ∧ ThruA f c
theorem ThruA.perm : ∀ {f : List (List Nat)} {a : List Nat}, ThruA f a → a.Perm f.flatten
  | [], a, h => by rw [show a = [] from h]; exact .refl _
  | ly :: f, a, h => by
    obtain ⟨b, c, rfl, hb, hc⟩ := h
    rw [List.flatten_cons]
    exact hb.append hc.perm
theorem ThruA.snoc : ∀ {f : List (List Nat)} {ly a : List Nat}, ThruA (f ++ [ly]) a → ∃ b c, a = b ++ c ∧ ThruA f b ∧ c.Perm ly
  | [], ly, a, h => by
    obtain ⟨b, c, rfl, hb, hc⟩ := (show ∃ b c, a = b ++ c ∧ b.Perm ly ∧ ThruA [] c from h)
    rw [show c = [] from hc, List.append_nil]
    exact ⟨[], b, rfl, rfl, hb⟩
  | l0 :: f, ly, a, h => by
    obtain ⟨b, c, rfl, hb, hc⟩ := (show ∃ b c, a = b ++ c ∧ b.Perm l0 ∧ ThruA (f ++ [ly]) c from h)
    obtain ⟨d, e, rfl, hd, he⟩ := ThruA.snoc hc
    exact ⟨b ++ d, e, by rw [List.append_assoc], ⟨b, d, rfl, hb, hd⟩, he⟩
theorem ThruA.self : ∀ f : List (List Nat), ThruA f f.flatten
  | [] => rfl
  | ly :: f => ⟨ly, f.flatten, by rw [List.flatten_cons], .refl _, ThruA.self f⟩
theorem hold_skip {row : List Nat} : ∀ {a c : List Nat}, (∀ k ∈ a, sg row k = 46) → hold row (a ++ c) = hold row c
  | [], _, _ => rfl
  | k :: a, c, h => by
    rw [List.cons_append, hold, if_pos (show row.getD k 46 = 46 from h k (List.mem_cons_self ..))]
    exact hold_skip fun j hj => h j (List.mem_cons_of_mem _ hj)
theorem hold_plus {row : List Nat} : ∀ {a c : List Nat}, (∀ k ∈ a, sg row k = 46 ∨ sg row k = 43) → (∃ k ∈ a, sg row k = 43) → hold row (a ++ c) = true
  | [], _, _, ⟨k, hk, _⟩ => by cases hk
  | k :: a, c, h, ⟨j, hj, ej⟩ => by
    rw [List.cons_append, hold]
    by_cases h1 : row.getD k 46 = 46
    · rw [if_pos h1]
      refine hold_plus (fun i hi => h i (List.mem_cons_of_mem _ hi)) ?_
      rcases List.mem_cons.mp hj with rfl | hj
      · rw [show sg row j = 46 from h1] at ej; cases ej
      · exact ⟨j, hj, ej⟩
    · rw [if_neg h1]
      rcases h k (List.mem_cons_self ..) with e | e
      · exact absurd e h1
      · rw [show row.getD k 46 = 43 from e]; rfl
/-! ### what the layers keep -/
structure WI (R : List (List Nat)) (m : Nat) (f : List (List Nat)) (p l : List Nat) : Prop where
  fl : p = f.flatten
  len : f.length ≤ p.length
  nd : p.Nodup
  lt : ∀ r ∈ p, r < m
  sub : l.Sublist (open0 R)
  dot : ∀ k ∈ l, ∀ r ∈ p, sg (R.getD k []) r = 46
  ok : ∀ k, k < R.length → k ∉ l → ∀ a c, ThruA f a → hold (R.getD k []) (a ++ c) = true
theorem getR {R : List (List Nat)} {k : Nat} (h : k < R.length) : R.getD k [] ∈ R := by
  rw [List.getD_eq_getElem?_getD, List.getElem?_eq_getElem h]
  exact List.getElem_mem h
theorem sg_mem {m : Nat} {row : List Nat} (h : Row m row) {r : Nat} (hr : r < m) : sg row r = 43 ∨ sg row r = 45 ∨ sg row r = 46 := by
  have hl : r < row.length := by rw [h.1]; exact hr
  unfold sg
  rw [List.getD_eq_getElem?_getD, List.getElem?_eq_getElem hl]
  exact h.mem (List.getElem_mem hl)
theorem all_dots {m : Nat} {row : List Nat} (h : Row m row) (hn : (row.any fun c => decide (c = 43) || decide (c = 45)) = false) (r : Nat) : sg row r = 46 := by
  unfold sg
  rw [List.getD_eq_getElem?_getD]
  cases e : row[r]? with
  | none => rfl
  | some c =>
    have hc := List.mem_of_getElem? e
    have := List.any_eq_false.mp hn c hc
    simp only [Bool.or_eq_true, decide_eq_true_eq, not_or] at this
    rcases h.mem hc with e1 | e1 | e1
    · exact absurd e1 this.1
    · exact absurd e1 this.2
    · simpa using e1
theorem open0_lt {R : List (List Nat)} {k : Nat} (h : k ∈ open0 R) : k < R.length := by
  have := (List.mem_filter.mp h).1
  simpa using this
theorem WI.start {R : List (List Nat)} {m : Nat} (hR : ∀ r ∈ R, Row m r) : WI R m [] [] (open0 R) := by
  refine ⟨rfl, Nat.le_refl _, List.nodup_nil, fun r h => absurd h (by simp), List.Sublist.refl _, fun _ _ r h => absurd h (by simp), fun k hk hn a c _ => ?_⟩
  have hn2 : ((R.getD k []).any fun c => decide (c = 43) || decide (c = 45)) = false := by
    cases e : ((R.getD k []).any fun c => decide (c = 43) || decide (c = 45)) with
    | false => rfl
    | true => exact absurd (List.mem_filter.mpr ⟨List.mem_range.mpr hk, e⟩) hn
  have h0 := all_dots (hR _ (getR hk)) hn2
  have := hold_skip (row := R.getD k []) (a := a ++ c) (c := []) fun j _ => h0 j
  rw [List.append_nil] at this
  rw [this]
  rfl
theorem mem_nextL {X : List (List Nat)} {p : List Nat} {m r : Nat} : r ∈ nextL X p m ↔ r < m ∧ r ∉ p ∧ ∀ row ∈ X, sg row r ≠ 45 := by
  unfold nextL
  rw [List.mem_filter, List.mem_range, Bool.and_eq_true, Bool.not_eq_true', Bool.not_eq_true', decide_eq_false_iff_not, List.any_eq_false]
  simp only [decide_eq_true_eq]
  exact Iff.rfl
theorem mem_keepL {R : List (List Nat)} {ly l : List Nat} {k : Nat} : k ∈ keepL R ly l ↔ k ∈ l ∧ ∀ r ∈ ly, sg (R.getD k []) r ≠ 43 := by
  unfold keepL
  rw [List.mem_filter, Bool.not_eq_true', List.any_eq_false]
  simp only [decide_eq_true_eq]
  exact Iff.rfl
theorem WI.step {R : List (List Nat)} {m : Nat} {f : List (List Nat)} {p l : List Nat} (hR : ∀ r ∈ R, Row m r) (W : WI R m f p l) (hne : nextL (rowsOf R l) p m ≠ []) : WI R m (f ++ [nextL (rowsOf R l) p m]) (p ++ nextL (rowsOf R l) p m) (keepL R (nextL (rowsOf R l) p m) l) := by
  have hno : ∀ k ∈ l, ∀ r ∈ nextL (rowsOf R l) p m, sg (R.getD k []) r = 46 ∨ sg (R.getD k []) r = 43 := fun k hk r hr => by
    obtain ⟨h1, h2, h3⟩ := mem_nextL.mp hr
    have := h3 _ (List.mem_map.mpr ⟨k, hk, rfl⟩)
    have hkR := open0_lt (W.sub.subset hk)
    rcases sg_mem (hR _ (getR hkR)) h1 with e | e | e
    · exact .inr e
    · exact absurd e this
    · exact .inl e
  refine ⟨by rw [List.flatten_append, W.fl]; simp, by
      have h0 : 0 < (nextL (rowsOf R l) p m).length := List.length_pos_iff.mpr hne
      have := W.len
      rw [List.length_append, List.length_append, List.length_singleton]
      omega, ?_, fun r hr => ?_, (List.filter_sublist ..).trans W.sub, fun k hk r hr => ?_, fun k hk hn a c ht => ?_⟩
  · rw [List.nodup_append]
    refine ⟨W.nd, (List.nodup_range).sublist (List.filter_sublist ..), fun a ha b hb e => ?_⟩
    subst e
    exact (mem_nextL.mp hb).2.1 ha
  · rcases List.mem_append.mp hr with h | h
    · exact W.lt r h
    · exact (mem_nextL.mp h).1
  · obtain ⟨h1, h2⟩ := mem_keepL.mp hk
    rcases List.mem_append.mp hr with h | h
    · exact W.dot k h1 r h
    · rcases hno k h1 r h with e | e
      · exact e
      · exact absurd e (h2 r h)
  · obtain ⟨b, d, rfl, hb, hd⟩ := ht.snoc
    rw [List.append_assoc]
    by_cases hl : k ∈ l
    · have hdot : ∀ r ∈ b, sg (R.getD k []) r = 46 := fun r hr => W.dot k hl r (by rw [W.fl]; exact hb.perm.mem_iff.mp hr)
      rw [hold_skip hdot]
      refine hold_plus (fun r hr => hno k hl r (hd.mem_iff.mp hr)) ?_
      have : ¬ ∀ r ∈ nextL (rowsOf R l) p m, sg (R.getD k []) r ≠ 43 := fun h => hn (mem_keepL.mpr ⟨hl, h⟩)
      have ⟨r, hr⟩ := Classical.not_forall.mp this
      have ⟨hr1, hr2⟩ := Classical.not_imp.mp hr
      exact ⟨r, hd.mem_iff.mpr hr1, Classical.not_not.mp hr2⟩
    · exact W.ok k hk hl b (d ++ c) hb
theorem WI.wk {R : List (List Nat)} {m : Nat} (hR : ∀ r ∈ R, Row m r) : ∀ {n : Nat} {f : List (List Nat)} {p l : List Nat}, WI R m f p l → WI R m (wk R m n f p l).1 (wk R m n f p l).2.1 (wk R m n f p l).2.2
  | 0, _, _, _, W => W
  | n + 1, f, p, l, W => by
    unfold KK.wk
    by_cases h1 : l = []
    · rw [if_pos h1]; exact W
    · rw [if_neg h1]
      by_cases h2 : nextL (rowsOf R l) p m = []
      · rw [if_pos h2]; exact W
      · rw [if_neg h2]
        exact (W.step hR h2).wk hR
theorem wk_end {R : List (List Nat)} {m : Nat} (hR : ∀ r ∈ R, Row m r) : ∀ {n : Nat} {f : List (List Nat)} {p l : List Nat}, WI R m f p l → m < p.length + n → (wk R m n f p l).2.2 = [] ∨ nextL (rowsOf R (wk R m n f p l).2.2) (wk R m n f p l).2.1 m = []
  | 0, f, p, l, W, h => by
    have := nodup_le m p W.nd W.lt
    omega
  | n + 1, f, p, l, W, h => by
    unfold KK.wk
    by_cases h1 : l = []
    · rw [if_pos h1]; exact .inl h1
    · rw [if_neg h1]
      by_cases h2 : nextL (rowsOf R l) p m = []
      · rw [if_pos h2]; exact .inr h2
      · rw [if_neg h2]
        refine wk_end hR (W.step hR h2) ?_
        rw [List.length_append]
        have : 0 < (nextL (rowsOf R l) p m).length := List.length_pos_iff.mpr h2
        omega
/-- the layers of rows, the rules in them, the rows that stay open -/
def walk (R : List (List Nat)) (m : Nat) : List (List Nat) × List Nat × List Nat := wk R m (m + 1) [] [] (open0 R)
theorem walk_inv {R : List (List Nat)} {m : Nat} (hR : ∀ r ∈ R, Row m r) : WI R m (walk R m).1 (walk R m).2.1 (walk R m).2.2 := (WI.start hR).wk hR
theorem walk_end {R : List (List Nat)} {m : Nat} (hR : ∀ r ∈ R, Row m r) : (walk R m).2.2 = [] ∨ nextL (rowsOf R (walk R m).2.2) (walk R m).2.1 m = [] := wk_end hR (WI.start hR) (by simp)
end KK
set_option Elab.async false
set_option linter.all false
set_option maxRecDepth 100000
set_option maxHeartbeats 1000000
/-! P12: quarrels, and what fits -/
namespace KK
open PySem DE
def Fits (X : List (List Nat)) (m : Nat) : Prop := ∃ o ∈ perms m, ∀ r ∈ X, hold r o = true
theorem fit_ne {X : List (List Nat)} {m : Nat} : fit X m ≠ [] ↔ Fits X m := by
  unfold fit Fits
  rw [Ne, List.filter_eq_nil_iff]
  constructor
  · intro h
    have ⟨o, ho⟩ := Classical.not_forall.mp h
    have ⟨h1, h2⟩ := Classical.not_imp.mp ho
    exact ⟨o, h1, List.all_eq_true.mp (Classical.not_not.mp h2)⟩
  · rintro ⟨o, h1, h2⟩ h
    exact h o h1 (List.all_eq_true.mpr h2)
theorem fit_nil {X : List (List Nat)} {m : Nat} : fit X m = [] ↔ ¬ Fits X m := by
  rw [← fit_ne]; exact ⟨fun h g => g h, Classical.not_not.mp⟩
theorem Fits.mono {X Y : List (List Nat)} {m : Nat} (h : Fits Y m) (s : ∀ r ∈ X, r ∈ Y) : Fits X m := by
  obtain ⟨o, h1, h2⟩ := h
  exact ⟨o, h1, fun r hr => h2 r (s r hr)⟩
def quar (X : List (List Nat)) (m : Nat) : Bool := decide (45 ∈ fuse X m) && !decide (43 ∈ fuse X m)
theorem mem_fuse {X : List (List Nat)} {m c : Nat} : c ∈ fuse X m ↔ ∃ k, k < m ∧ fz (colOf X k) = c := by
  unfold fuse
  rw [List.mem_map]
  exact ⟨fun ⟨k, h1, h2⟩ => ⟨k, List.mem_range.mp h1, h2⟩, fun ⟨k, h1, h2⟩ => ⟨k, List.mem_range.mpr h1, h2⟩⟩
theorem mem_col {X : List (List Nat)} {k c : Nat} : c ∈ colOf X k ↔ ∃ r ∈ X, sg r k = c := by
  unfold colOf
  rw [List.mem_map]
  exact Iff.rfl
theorem fz_minus {l : List Nat} : fz l = 45 ↔ 45 ∈ l := by
  unfold fz
  by_cases h : 45 ∈ l
  · simp [h]
  · by_cases h2 : 43 ∈ l
    · simp [h, h2]
    · simp [h, h2]
theorem quar_iff {X : List (List Nat)} {m : Nat} : quar X m = true ↔ (∃ k, k < m ∧ ∃ r ∈ X, sg r k = 45) ∧ ∀ k, k < m → (∃ r ∈ X, sg r k = 43) → ∃ r ∈ X, sg r k = 45 := by
  unfold quar
  rw [Bool.and_eq_true, Bool.not_eq_true', decide_eq_true_eq, decide_eq_false_iff_not, mem_fuse, mem_fuse]
  constructor
  · rintro ⟨⟨k, h1, h2⟩, h3⟩
    refine ⟨⟨k, h1, mem_col.mp (fz_minus.mp h2)⟩, fun j hj hp => ?_⟩
    by_cases h : 45 ∈ colOf X j
    · exact mem_col.mp h
    · refine absurd ⟨j, hj, ?_⟩ h3
      unfold fz
      rw [if_neg h, if_pos (mem_col.mpr hp)]
  · rintro ⟨⟨k, h1, h2⟩, h3⟩
    refine ⟨⟨k, h1, fz_minus.mpr (mem_col.mpr h2)⟩, fun ⟨j, hj, e⟩ => ?_⟩
    unfold fz at e
    by_cases h : 45 ∈ colOf X j
    · rw [if_pos h] at e; cases e
    · rw [if_neg h] at e
      by_cases h2 : 43 ∈ colOf X j
      · exact h (mem_col.mpr (h3 j hj (mem_col.mp h2)))
      · rw [if_neg h2] at e; cases e
theorem hold_minus {row : List Nat} : ∀ {o : List Nat}, (∀ k ∈ o, sg row k = 46 ∨ sg row k = 45) → (∃ k ∈ o, sg row k = 45) → hold row o = false
  | [], _, ⟨k, hk, _⟩ => by cases hk
  | k :: o, h, ⟨j, hj, ej⟩ => by
    rw [hold]
    by_cases h1 : row.getD k 46 = 46
    · rw [if_pos h1]
      refine hold_minus (fun i hi => h i (List.mem_cons_of_mem _ hi)) ?_
      rcases List.mem_cons.mp hj with rfl | hj
      · rw [show sg row j = 46 from h1] at ej; cases ej
      · exact ⟨j, hj, ej⟩
    · rw [if_neg h1]
      rcases h k (List.mem_cons_self ..) with e | e
      · exact absurd e h1
      · rw [show row.getD k 46 = 45 from e]; rfl
theorem quar_unfit {X : List (List Nat)} {m : Nat} (hX : ∀ r ∈ X, Row m r) (h : quar X m = true) : ¬ Fits X m := by
  rintro ⟨o, h1, h2⟩
  obtain ⟨p1, p2, p3⟩ := mem_perms.mp h1
  have hp := perm_of_perms h1
  have ht := fuse_hold hX o p3 h2
  obtain ⟨⟨k, hk, hm⟩, hall⟩ := quar_iff.mp h
  have hs : ∀ j, j < m → sg (fuse X m) j = fz (colOf X j) := fun j hj => fuse_get X hj
  have hf : hold (fuse X m) o = false := by
    refine hold_minus (fun j hj => ?_) ⟨k, hp.mem_iff.mpr (by simpa using hk), ?_⟩
    · rw [hs j (p3 j hj)]
      unfold fz
      by_cases g1 : 45 ∈ colOf X j
      · rw [if_pos g1]; exact .inr rfl
      · rw [if_neg g1]
        by_cases g2 : 43 ∈ colOf X j
        · exact absurd (mem_col.mpr (hall j (p3 j hj) (mem_col.mp g2))) g1
        · rw [if_neg g2]; exact .inl rfl
    · rw [hs k hk]
      exact fz_minus.mpr (mem_col.mpr hm)
  rw [ht] at hf
  cases hf
theorem open0_sign {m : Nat} {R : List (List Nat)} (hR : ∀ r ∈ R, Row m r) {k : Nat} (h : k ∈ open0 R) : ∃ r, r < m ∧ sg (R.getD k []) r ≠ 46 := by
  obtain ⟨h1, h2⟩ := List.mem_filter.mp h
  obtain ⟨c, hc, e⟩ := List.any_eq_true.mp h2
  obtain ⟨i, hi, rfl⟩ := List.mem_iff_getElem.mp hc
  have hl := (hR _ (getR (open0_lt h))).1
  refine ⟨i, by omega, ?_⟩
  unfold sg
  rw [List.getD_eq_getElem?_getD, List.getElem?_eq_getElem hi]
  simp only [Bool.or_eq_true, decide_eq_true_eq] at e
  show (R.getD k [])[i] ≠ 46
  omega
/-- the rows that stay open quarrel -/
theorem stuck_quar {R : List (List Nat)} {m : Nat} (hR : ∀ r ∈ R, Row m r) (h : (walk R m).2.2 ≠ []) : quar (rowsOf R (walk R m).2.2) m = true := by
  have W := walk_inv hR
  have hn : nextL (rowsOf R (walk R m).2.2) (walk R m).2.1 m = [] := (walk_end hR).resolve_left h
  generalize (walk R m).2.2 = l at *
  generalize (walk R m).2.1 = p at *
  have hno : ∀ r, r < m → r ∉ p → ∃ row ∈ rowsOf R l, sg row r = 45 := fun r hr hp => by
    have : r ∉ nextL (rowsOf R l) p m := by rw [hn]; simp
    rw [mem_nextL] at this
    have h2 : ¬ ∀ row ∈ rowsOf R l, sg row r ≠ 45 := fun g => this ⟨hr, hp, g⟩
    have ⟨row, h3⟩ := Classical.not_forall.mp h2
    have ⟨h4, h5⟩ := Classical.not_imp.mp h3
    exact ⟨row, h4, Classical.not_not.mp h5⟩
  obtain ⟨k, hk⟩ := List.exists_mem_of_ne_nil l h
  obtain ⟨r, hr, hs⟩ := open0_sign hR (W.sub.subset hk)
  have hrp : r ∉ p := fun g => hs (W.dot k hk r g)
  refine quar_iff.mpr ⟨⟨r, hr, hno r hr hrp⟩, fun j hj ⟨row, h1, h2⟩ => ?_⟩
  obtain ⟨k', hk', rfl⟩ := List.mem_map.mp h1
  refine hno j hj fun g => ?_
  rw [W.dot k' hk' j g] at h2
  cases h2
theorem rowsOf_row {R : List (List Nat)} {m : Nat} {l : List Nat} (hR : ∀ r ∈ R, Row m r) (hl : ∀ k ∈ l, k < R.length) : ∀ r ∈ rowsOf R l, Row m r := fun r hr => by
  obtain ⟨k, hk, rfl⟩ := List.mem_map.mp hr
  exact hR _ (getR (hl k hk))
theorem rowsOf_mem {R : List (List Nat)} {l : List Nat} (hl : ∀ k ∈ l, k < R.length) : ∀ r ∈ rowsOf R l, r ∈ R := fun r hr => by
  obtain ⟨k, hk, rfl⟩ := List.mem_map.mp hr
  exact getR (hl k hk)
theorem walk_lt {R : List (List Nat)} {m : Nat} (hR : ∀ r ∈ R, Row m r) : ∀ k ∈ (walk R m).2.2, k < R.length := fun k hk => open0_lt ((walk_inv hR).sub.subset hk)
/-- every order through the layers, then the rest, fits -/
theorem thru_fits {R : List (List Nat)} {m : Nat} (hR : ∀ r ∈ R, Row m r) (h : (walk R m).2.2 = []) (a c : List Nat) (ha : ThruA (walk R m).1 a) : ∀ r ∈ R, hold r (a ++ c) = true := by
  intro r hr
  obtain ⟨k, hk, rfl⟩ := List.mem_iff_getElem.mp hr
  have := (walk_inv hR).ok k hk (by rw [h]; simp) a c ha
  rwa [List.getD_eq_getElem?_getD, List.getElem?_eq_getElem hk] at this
def restL (p : List Nat) (m : Nat) : List Nat := (List.range m).filter fun r => !decide (r ∈ p)
theorem thru_perm {R : List (List Nat)} {m : Nat} (hR : ∀ r ∈ R, Row m r) {a c : List Nat} (ha : ThruA (walk R m).1 a) (hc : c.Perm (restL (walk R m).2.1 m)) : (a ++ c).Perm (List.range m) := by
  have W := walk_inv hR
  have hp : (a ++ c).Perm ((walk R m).2.1 ++ restL (walk R m).2.1 m) := by
    rw [W.fl] at hc ⊢
    exact ha.perm.append hc
  refine hp.trans ?_
  rw [List.perm_iff_count]
  intro x
  rw [List.count_append, W.nd.count, ((List.nodup_range).sublist (List.filter_sublist ..) : (restL (walk R m).2.1 m).Nodup).count, (List.nodup_range).count]
  have hx : x ∈ restL (walk R m).2.1 m ↔ x < m ∧ x ∉ (walk R m).2.1 := by
    unfold restL
    rw [List.mem_filter, List.mem_range, Bool.not_eq_true', decide_eq_false_iff_not]
  simp only [hx, List.mem_range]
  by_cases h1 : x ∈ (walk R m).2.1
  · have := W.lt x h1
    simp [h1, this]
  · simp [h1]
theorem walk_iff {R : List (List Nat)} {m : Nat} (hR : ∀ r ∈ R, Row m r) : (walk R m).2.2 = [] ↔ Fits R m := by
  constructor
  · intro h
    refine ⟨(walk R m).1.flatten ++ restL (walk R m).2.1 m, perms_of_perm (thru_perm hR (ThruA.self _) (.refl _)), fun r hr => thru_fits hR h _ _ (ThruA.self _) r hr⟩
  · intro h
    by_cases hl : (walk R m).2.2 = []
    · exact hl
    · exact absurd (h.mono (rowsOf_mem (walk_lt hR))) (quar_unfit (rowsOf_row hR (walk_lt hR)) (stuck_quar hR hl))
end KK
set_option Elab.async false
set_option linter.all false
set_option maxRecDepth 100000
set_option maxHeartbeats 1000000
/-! P13: the program's layers and quarrels -/
namespace KK
open PySem DE
/-- rows as a list or a tuple of texts -/
def SqD (rs : D) (R : List (List Nat)) : Prop := rs = .lst (R.map D.str) ∨ rs = .tup (R.map D.str)
theorem SqD.dv {rs : D} {R : List (List Nat)} (h : SqD rs R) : toDV rs = .imm rs := by rcases h with rfl | rfl <;> rfl
theorem SqD.rd {rs : D} {R : List (List Nat)} (h : SqD rs R) (z : Z) : rd z rs = some rs := by rcases h with rfl | rfl <;> rfl
theorem SqD.ln {rs : D} {R : List (List Nat)} (h : SqD rs R) (z : Z) : lendD z rs = some rs := by rcases h with rfl | rfl <;> rfl
theorem SqD.en {rs : D} {R : List (List Nat)} (h : SqD rs R) (z : Z) : enB z rs = some (enumL (R.map D.str), z) := by rcases h with rfl | rfl <;> rfl
theorem SqD.it {rs : D} {R : List (List Nat)} (h : SqD rs R) : itD rs = some (R.map D.str) := by rcases h with rfl | rfl <;> rfl
theorem SqD.ix {rs : D} {R : List (List Nat)} (h : SqD rs R) {k : Nat} (hk : k < R.length) : ixD rs (.int (k : Nat)) = some (.str (R.getD k [])) := by
  rcases h with rfl | rfl
  · rw [ix_lst (l := R.map D.str) (by rw [List.length_map]; exact hk), get_str hk]
  · rw [ix_tup (l := R.map D.str) (by rw [List.length_map]; exact hk), get_str hk]
theorem zipIdx_range (R : List (List Nat)) : R.zipIdx = (List.range R.length).map fun k => (R.getD k [], k) := by
  apply List.ext_getElem?
  intro i
  rw [List.getElem?_zipIdx, List.getElem?_map]
  by_cases hi : i < R.length
  · rw [List.getElem?_range hi, List.getElem?_eq_getElem hi]
    simp [List.getD_eq_getElem?_getD, hi]
  · rw [List.getElem?_eq_none (by omega), List.getElem?_eq_none (by simpa using hi)]
    rfl
theorem signs_any (row : List Nat) : (decide (43 ∈ row) || decide (45 ∈ row)) = row.any fun c => decide (c = 43) || decide (c = 45) := by
  induction row with
  | nil => rfl
  | cons a row ih =>
    rw [List.any_cons, ← ih]
    by_cases h1 : a = 43
    · subst h1; simp
    · by_cases h2 : a = 45
      · subst h2; simp
      · have h3 : ¬ 43 = a := fun e => h1 e.symm
        have h4 : ¬ 45 = a := fun e => h2 e.symm
        simp [h1, h2, h3, h4]
theorem open0_zip (R : List (List Nat)) : ((R.zipIdx.filter fun p => decide (43 ∈ p.1) || decide (45 ∈ p.1)).map fun p => D.int (p.2 : Nat)) = enI (open0 R) := by
  rw [zipIdx_range, List.filter_map, List.map_map]
  unfold enI open0
  congr 1
  refine List.filter_congr fun k _ => ?_
  show (decide (43 ∈ R.getD k []) || decide (45 ∈ R.getD k [])) = _
  rw [signs_any]
theorem eq_sign {c : Nat} {k : Nat} : eqD (.str [c]) (.str [k]) = some (.bl (decide (c = k))) := by
  rw [eq_ss]
  simp only [List.cons.injEq, and_true]
theorem in_row {c : Nat} {s : List Nat} : inD (.str [c]) (.str s) = some (.bl (decide (c ∈ s))) := rfl
theorem next_layer_eq {X : List (List Nat)} {p : List Nat} {m : Nat} (hX : ∀ r ∈ X, r.length = m) (hm : m ≤ 8) (hl : X.length ≤ 1000) (S : Store) : m_next_layer [.lst (X.map D.str), .brw (enI p), .int (m : Nat)] S = some (.lst (enI (nextL X p m)), S) := by
  have hc0 : ∀ r, r < m → evF next_layer_c0 ([some (.imm (.lst (X.map D.str))), some (.brw (enI p)), some (.imm (.int (m : Nat))), some (.imm (.int (r : Nat))), none], S) = some (X.map (fun row => D.bl (decide (row.getD r 46 = 45))), ([some (.imm (.lst (X.map D.str))), some (.brw (enI p)), some (.imm (.int (m : Nat))), some (.imm (.int (r : Nat))), none], S)) := by
    intro r hr
    unfold next_layer_c0
    refine comp_map X D.str _ rfl rfl (by omega) fun row hrow => ⟨?_, rfl⟩
    simp only [EV0, EV1, EV2, EV3, EV4, EV5, EV6, EV7, EV8, EV9, EV10, EV11, EV12, EV13, EV14, EV15, EV16, Option.bind_some, Option.bind_none, Option.map_some, Option.map_none, List.getElem?_cons_zero, List.getElem?_cons_succ, List.set_cons_zero, List.set_cons_succ, List.map_cons, List.map_nil, List.length_cons, List.length_nil, List.cons_append, List.nil_append, Bool.and_true, Bool.true_and, Bool.and_false, Bool.false_and, List.all_cons, List.all_nil, List.replicate, Bool.not_true, Bool.not_false, Bool.false_eq_true, if_true, if_false, ↓reduceIte, decide_true, decide_false, Nat.zero_add, Nat.reduceAdd, Nat.reduceSub, dd_lnbor, dd_lnown, dd_lnbrw, dd_plT, dd_rdT, dd_lnT, dd_dvT, dd_itT, dd_isT, dd_tyT, dd_lenT, dd_esT, dd_tpT, dd_lsT, dd_plB, dd_rdB, dd_lnB, dd_dvB, dd_icB, dd_f4B, dd_f5B, dd_f6B, ix_row (show r < row.length by rw [hX row hrow]; exact hr), List.cons.injEq, and_true]
  have hc1 : evF next_layer_c1 ([some (.imm (.lst (X.map D.str))), some (.brw (enI p)), some (.imm (.int (m : Nat))), none, none], S) = some (enI (nextL X p m), ([some (.imm (.lst (X.map D.str))), some (.brw (enI p)), some (.imm (.int (m : Nat))), none, none], S)) := by
    unfold next_layer_c1
    refine comp_nm (List.range m) (fun k => D.int (k : Nat)) (fun r => !decide (r ∈ p) && !(X.any fun row => decide (row.getD r 46 = 45))) (fun k => D.int (k : Nat)) (evI_rng rfl (by omega)) rfl (by simp; omega) fun r hr => ⟨?_, fun _ => ⟨rfl, rfl⟩⟩
    have hr' : r < m := by simpa using hr
    by_cases hp : r ∈ p
    · simp only [EV0, EV1, EV2, EV3, EV4, EV5, EV6, EV7, EV8, EV9, EV10, EV11, EV12, EV13, EV14, EV15, EV16, Option.bind_some, Option.bind_none, Option.map_some, Option.map_none, List.getElem?_cons_zero, List.getElem?_cons_succ, List.set_cons_zero, List.set_cons_succ, List.map_cons, List.map_nil, List.length_cons, List.length_nil, List.cons_append, List.nil_append, Bool.and_true, Bool.true_and, Bool.and_false, Bool.false_and, List.all_cons, List.all_nil, List.replicate, Bool.not_true, Bool.not_false, Bool.false_eq_true, if_true, if_false, ↓reduceIte, decide_true, decide_false, Nat.zero_add, Nat.reduceAdd, Nat.reduceSub, dd_lnbor, dd_lnown, dd_lnbrw, dd_plT, dd_rdT, dd_lnT, dd_dvT, dd_itT, dd_isT, dd_tyT, dd_lenT, dd_esT, dd_tpT, dd_lsT, dd_plB, dd_rdB, dd_lnB, dd_dvB, dd_icB, dd_f4B, dd_f5B, dd_f6B, nin_lst, hp]
    · simp only [EV0, EV1, EV2, EV3, EV4, EV5, EV6, EV7, EV8, EV9, EV10, EV11, EV12, EV13, EV14, EV15, EV16, Option.bind_some, Option.bind_none, Option.map_some, Option.map_none, List.getElem?_cons_zero, List.getElem?_cons_succ, List.set_cons_zero, List.set_cons_succ, List.map_cons, List.map_nil, List.length_cons, List.length_nil, List.cons_append, List.nil_append, Bool.and_true, Bool.true_and, Bool.and_false, Bool.false_and, List.all_cons, List.all_nil, List.replicate, Bool.not_true, Bool.not_false, Bool.false_eq_true, if_true, if_false, ↓reduceIte, decide_true, decide_false, Nat.zero_add, Nat.reduceAdd, Nat.reduceSub, dd_lnbor, dd_lnown, dd_lnbrw, dd_plT, dd_rdT, dd_lnT, dd_dvT, dd_itT, dd_isT, dd_tyT, dd_lenT, dd_esT, dd_tpT, dd_lsT, dd_plB, dd_rdB, dd_lnB, dd_dvB, dd_icB, dd_f4B, dd_f5B, dd_f6B, nin_lst, hp, hc0 r hr', anyD_f]
  unfold m_next_layer ir_next_layer
  simp only [EV0, EV1, EV2, EV3, EV4, EV5, EV6, EV7, EV8, EV9, EV10, EV11, EV12, EV13, EV14, EV15, EV16, Option.bind_some, Option.bind_none, Option.map_some, Option.map_none, List.getElem?_cons_zero, List.getElem?_cons_succ, List.set_cons_zero, List.set_cons_succ, List.map_cons, List.map_nil, List.length_cons, List.length_nil, List.cons_append, List.nil_append, Bool.and_true, Bool.true_and, Bool.and_false, Bool.false_and, List.all_cons, List.all_nil, List.replicate, Bool.not_true, Bool.not_false, Bool.false_eq_true, if_true, if_false, ↓reduceIte, decide_true, decide_false, Nat.zero_add, Nat.reduceAdd, Nat.reduceSub, dd_lnbor, dd_lnown, dd_lnbrw, dd_plT, dd_rdT, dd_lnT, dd_dvT, dd_itT, dd_isT, dd_tyT, dd_lenT, dd_esT, dd_tpT, dd_lsT, dd_plB, dd_rdB, dd_lnB, dd_dvB, dd_icB, dd_f4B, dd_f5B, dd_f6B, hc1]
/-! ### walked -/
abbrev rW (rs : D) (m : Nat) (f : List (List Nat)) (p l : List Nat) (o3 o6 : Option DV) : Rho := [some (.imm rs), some (.imm (.int (m : Nat))), some (.imm (.lst (enI l))), o3, some (.own (f.map enT)), some (.own (enI p)), o6, none, none, none]
theorem enI_app (a b : List Nat) : enI a ++ enI b = enI (a ++ b) := by simp [enI]
theorem enI_nil_iff {l : List Nat} : (enI l).isEmpty = decide (l = []) := by cases l <;> simp [enI]
theorem dpts_enI (l : List Nat) : (enI l).all (dpt 31) = true := dpts_int (fun k : Nat => (k : Int)) l
theorem nextL_len (X : List (List Nat)) (p : List Nat) (m : Nat) : (nextL X p m).length ≤ m := by
  unfold nextL
  exact Nat.le_trans (List.length_filter_le _ _) (by simp)
section
variable {rs : D} {R : List (List Nat)} {m : Nat} (hrs : SqD rs R) (hR : ∀ r ∈ R, Row m r) (hm : m ≤ 8) (hl : R.length ≤ 1000) (S : Store)
include hrs hR hm hl
theorem walked_c3_eq {f : List (List Nat)} {p l : List Nat} (hlt : ∀ k ∈ l, k < R.length) (hll : l.length ≤ 1000) (o3 o6 : Option DV) : evF walked_c3 (rW rs m f p l o3 o6, S) = some ((rowsOf R l).map D.str, (rW rs m f p l o3 o6, S)) := by
  unfold walked_c3 rowsOf
  rw [List.map_map]
  refine comp_map l (fun k => D.int (k : Nat)) _ rfl rfl (by omega) fun k hk => ⟨?_, rfl⟩
  simp only [EV0, EV1, EV2, EV3, EV4, EV5, EV6, EV7, EV8, EV9, EV10, EV11, EV12, EV13, EV14, EV15, EV16, Option.bind_some, Option.bind_none, Option.map_some, Option.map_none, List.getElem?_cons_zero, List.getElem?_cons_succ, List.set_cons_zero, List.set_cons_succ, List.map_cons, List.map_nil, List.length_cons, List.length_nil, List.cons_append, List.nil_append, Bool.and_true, Bool.true_and, Bool.and_false, Bool.false_and, List.all_cons, List.all_nil, List.replicate, Bool.not_true, Bool.not_false, Bool.false_eq_true, if_true, if_false, ↓reduceIte, decide_true, decide_false, Nat.zero_add, Nat.reduceAdd, Nat.reduceSub, dd_lnbor, dd_lnown, dd_lnbrw, dd_plT, dd_rdT, dd_lnT, dd_dvT, dd_itT, dd_isT, dd_tyT, dd_lenT, dd_esT, dd_tpT, dd_lsT, dd_plB, dd_rdB, dd_lnB, dd_dvB, dd_icB, dd_f4B, dd_f5B, dd_f6B, hrs.rd, hrs.ix (hlt k hk)]
  rfl
theorem walked_c2_eq {f : List (List Nat)} {p l ly : List Nat} (hlt : ∀ k ∈ l, k < R.length) (hll : l.length ≤ 1000) (hly : ∀ r ∈ ly, r < m) (hlyl : ly.length ≤ 1000) (o3 : Option DV) : evF walked_c2 (rW rs m f p l o3 (some (.imm (.lst (enI ly)))), S) = some (enI (keepL R ly l), (rW rs m f p l o3 (some (.imm (.lst (enI ly)))), S)) := by
  unfold walked_c2
  refine comp_nm l (fun k => D.int (k : Nat)) (fun k => !(ly.any fun r => decide ((R.getD k []).getD r 46 = 43))) (fun k => D.int (k : Nat)) rfl rfl (by omega) fun k hk => ⟨?_, fun _ => ⟨rfl, rfl⟩⟩
  have hc : evF walked_c1 ([some (.imm rs), some (.imm (.int (m : Nat))), some (.imm (.lst (enI l))), o3, some (.own (f.map enT)), some (.own (enI p)), some (.imm (.lst (enI ly))), none, some (.imm (.int (k : Nat))), none], S) = some (ly.map (fun r => D.bl (decide ((R.getD k []).getD r 46 = 43))), ([some (.imm rs), some (.imm (.int (m : Nat))), some (.imm (.lst (enI l))), o3, some (.own (f.map enT)), some (.own (enI p)), some (.imm (.lst (enI ly))), none, some (.imm (.int (k : Nat))), none], S)) := by
    unfold walked_c1
    refine comp_map ly (fun r => D.int (r : Nat)) _ rfl rfl (by omega) fun r hr => ⟨?_, rfl⟩
    have hrow := hR _ (getR (hlt k hk))
    simp only [EV0, EV1, EV2, EV3, EV4, EV5, EV6, EV7, EV8, EV9, EV10, EV11, EV12, EV13, EV14, EV15, EV16, Option.bind_some, Option.bind_none, Option.map_some, Option.map_none, List.getElem?_cons_zero, List.getElem?_cons_succ, List.set_cons_zero, List.set_cons_succ, List.map_cons, List.map_nil, List.length_cons, List.length_nil, List.cons_append, List.nil_append, Bool.and_true, Bool.true_and, Bool.and_false, Bool.false_and, List.all_cons, List.all_nil, List.replicate, Bool.not_true, Bool.not_false, Bool.false_eq_true, if_true, if_false, ↓reduceIte, decide_true, decide_false, Nat.zero_add, Nat.reduceAdd, Nat.reduceSub, dd_lnbor, dd_lnown, dd_lnbrw, dd_plT, dd_rdT, dd_lnT, dd_dvT, dd_itT, dd_isT, dd_tyT, dd_lenT, dd_esT, dd_tpT, dd_lsT, dd_plB, dd_rdB, dd_lnB, dd_dvB, dd_icB, dd_f4B, dd_f5B, dd_f6B, hrs.rd, hrs.ix (hlt k hk), ix_row (show r < (R.getD k []).length by rw [hrow.1]; exact hly r hr), List.cons.injEq, and_true]
  simp only [EV0, EV1, EV2, EV3, EV4, EV5, EV6, EV7, EV8, EV9, EV10, EV11, EV12, EV13, EV14, EV15, EV16, Option.bind_some, Option.bind_none, Option.map_some, Option.map_none, List.getElem?_cons_zero, List.getElem?_cons_succ, List.set_cons_zero, List.set_cons_succ, List.map_cons, List.map_nil, List.length_cons, List.length_nil, List.cons_append, List.nil_append, Bool.and_true, Bool.true_and, Bool.and_false, Bool.false_and, List.all_cons, List.all_nil, List.replicate, Bool.not_true, Bool.not_false, Bool.false_eq_true, if_true, if_false, ↓reduceIte, decide_true, decide_false, Nat.zero_add, Nat.reduceAdd, Nat.reduceSub, dd_lnbor, dd_lnown, dd_lnbrw, dd_plT, dd_rdT, dd_lnT, dd_dvT, dd_itT, dd_isT, dd_tyT, dd_lenT, dd_esT, dd_tpT, dd_lsT, dd_plB, dd_rdB, dd_lnB, dd_dvB, dd_icB, dd_f4B, dd_f5B, dd_f6B, hc, anyD_f]
theorem walked_go {f : List (List Nat)} {p l : List Nat} (W : WI R m f p l) (hne : l ≠ []) (hnx : nextL (rowsOf R l) p m ≠ []) (o3 o6 : Option DV) : evSs walked_b0 (rW rs m f p l o3 o6, S) = some (.nx, (rW rs m (f ++ [nextL (rowsOf R l) p m]) (p ++ nextL (rowsOf R l) p m) (keepL R (nextL (rowsOf R l) p m) l) o3 (some (.imm (.lst (enI (nextL (rowsOf R l) p m))))), S)) := by
  have hlt : ∀ k ∈ l, k < R.length := fun k hk => open0_lt (W.sub.subset hk)
  have hll : l.length ≤ 1000 := Nat.le_trans W.sub.length_le (Nat.le_trans (List.length_filter_le _ _) (by simpa using hl))
  have hpl : p.length ≤ m := nodup_le m p W.nd W.lt
  have hfl : f.length < 16777216 := by have := W.len; omega
  have h1 := walked_c3_eq hrs hR hm hl S (f := f) (p := p) hlt hll o3 o6
  have h2 := next_layer_eq (X := rowsOf R l) (p := p) (fun r hr => (rowsOf_row hR hlt r hr).1) hm (by unfold rowsOf; simpa using hll) S
  have hly : ∀ r ∈ nextL (rowsOf R l) p m, r < m := fun r hr => (mem_nextL.mp hr).1
  have hlyl := nextL_len (rowsOf R l) p m
  generalize nextL (rowsOf R l) p m = ly at *
  have h3 := walked_c2_eq hrs hR hm hl S (f := f ++ [ly]) (p := p ++ ly) hlt hll hly (by omega) o3
  have h4 := eq_nil (dpts_enI ly)
  rw [enI_nil_iff, decide_eq_false hnx] at h4
  have h5 : oExt (enI p) [.lst (enI ly)] = some (.non, enI (p ++ ly)) := by
    show some (D.non, enI p ++ enI ly) = _
    rw [enI_app]
  have h6 : okLen (enI (p ++ ly)) = true := okLen_of (by rw [enI_len, List.length_append]; omega)
  have h7 : f.map enT ++ [.tup (enI ly)] = (f ++ [ly]).map enT := by simp [enT]
  have h8 := blt_of hfl
  unfold rW at h1 h3 ⊢
  unfold walked_b0
  simp only [EV0, EV1, EV2, EV3, EV4, EV5, EV6, EV7, EV8, EV9, EV10, EV11, EV12, EV13, EV14, EV15, EV16, Option.bind_some, Option.bind_none, Option.map_some, Option.map_none, List.getElem?_cons_zero, List.getElem?_cons_succ, List.set_cons_zero, List.set_cons_succ, List.map_cons, List.map_nil, List.length_cons, List.length_nil, List.cons_append, List.nil_append, Bool.and_true, Bool.true_and, Bool.and_false, Bool.false_and, List.all_cons, List.all_nil, List.replicate, Bool.not_true, Bool.not_false, Bool.false_eq_true, if_true, if_false, ↓reduceIte, decide_true, decide_false, Nat.zero_add, Nat.reduceAdd, Nat.reduceSub, dd_lnbor, dd_lnown, dd_lnbrw, dd_plT, dd_rdT, dd_lnT, dd_dvT, dd_itT, dd_isT, dd_tyT, dd_lenT, dd_esT, dd_tpT, dd_lsT, dd_plB, dd_rdB, dd_lnB, dd_dvB, dd_icB, dd_f4B, dd_f5B, dd_f6B, h1, h2, h4, h5, h6, List.length_map, h8, h7, h3]
theorem walked_stop {f : List (List Nat)} {p l : List Nat} (W : WI R m f p l) (hne : l ≠ []) (hnx : nextL (rowsOf R l) p m = []) (o3 o6 : Option DV) : ∃ ρ, evSs walked_b0 (rW rs m f p l o3 o6, S) = some (.rt (.tup [.lst (f.map enT), .lst (enI l)]), (ρ, S)) := by
  have hlt : ∀ k ∈ l, k < R.length := fun k hk => open0_lt (W.sub.subset hk)
  have hll : l.length ≤ 1000 := Nat.le_trans W.sub.length_le (Nat.le_trans (List.length_filter_le _ _) (by simpa using hl))
  have h1 := walked_c3_eq hrs hR hm hl S (f := f) (p := p) hlt hll o3 o6
  have h2 := next_layer_eq (X := rowsOf R l) (p := p) (fun r hr => (rowsOf_row hR hlt r hr).1) hm (by unfold rowsOf; simpa using hll) S
  rw [hnx] at h2
  have h4 := eq_nil (dpts_enI [])
  rw [enI_nil_iff] at h4
  refine ⟨[some (.imm rs), some (.imm (.int (m : Nat))), some (.imm (.lst (enI l))), o3, some (.imm (.lst (f.map enT))), some (.own (enI p)), some (.imm (.lst (enI []))), none, none, none], ?_⟩
  unfold rW at h1 ⊢
  unfold walked_b0
  simp only [EV0, EV1, EV2, EV3, EV4, EV5, EV6, EV7, EV8, EV9, EV10, EV11, EV12, EV13, EV14, EV15, EV16, Option.bind_some, Option.bind_none, Option.map_some, Option.map_none, List.getElem?_cons_zero, List.getElem?_cons_succ, List.set_cons_zero, List.set_cons_succ, List.map_cons, List.map_nil, List.length_cons, List.length_nil, List.cons_append, List.nil_append, Bool.and_true, Bool.true_and, Bool.and_false, Bool.false_and, List.all_cons, List.all_nil, List.replicate, Bool.not_true, Bool.not_false, Bool.false_eq_true, if_true, if_false, ↓reduceIte, decide_true, decide_false, Nat.zero_add, Nat.reduceAdd, Nat.reduceSub, dd_lnbor, dd_lnown, dd_lnbrw, dd_plT, dd_rdT, dd_lnT, dd_dvT, dd_itT, dd_isT, dd_tyT, dd_lenT, dd_esT, dd_tpT, dd_lsT, dd_plB, dd_rdB, dd_lnB, dd_dvB, dd_icB, dd_f4B, dd_f5B, dd_f6B, h1, h2, h4]
abbrev tW : E := .cmp .NotEq neD (.var 2) (.fr (.dsp .nil))
theorem walked_t {f : List (List Nat)} {p l : List Nat} (o3 o6 : Option DV) : evT tW (rW rs m f p l o3 o6, S) = some (!decide (l = []), (rW rs m f p l o3 o6, S)) := by
  have h := ne_nil (dpts_enI l)
  rw [enI_nil_iff] at h
  unfold rW
  simp only [EV0, EV1, EV2, EV3, EV4, EV5, EV6, EV7, EV8, EV9, EV10, EV11, EV12, EV13, EV14, EV15, EV16, Option.bind_some, Option.bind_none, Option.map_some, Option.map_none, List.getElem?_cons_zero, List.getElem?_cons_succ, List.set_cons_zero, List.set_cons_succ, List.map_cons, List.map_nil, List.length_cons, List.length_nil, List.cons_append, List.nil_append, Bool.and_true, Bool.true_and, Bool.and_false, Bool.false_and, List.all_cons, List.all_nil, List.replicate, Bool.not_true, Bool.not_false, Bool.false_eq_true, if_true, if_false, ↓reduceIte, decide_true, decide_false, Nat.zero_add, Nat.reduceAdd, Nat.reduceSub, dd_lnbor, dd_lnown, dd_lnbrw, dd_plT, dd_rdT, dd_lnT, dd_dvT, dd_itT, dd_isT, dd_tyT, dd_lenT, dd_esT, dd_tpT, dd_lsT, dd_plB, dd_rdB, dd_lnB, dd_dvB, dd_icB, dd_f4B, dd_f5B, dd_f6B, h]
theorem walked_while : ∀ (n N : Nat) {f : List (List Nat)} {p l : List Nat} (o3 o6 : Option DV), WI R m f p l → m < p.length + n → n < N →
    ((wk R m n f p l).2.2 = [] → ∃ o6', whileL (evT tW) (evSs walked_b0) N (rW rs m f p l o3 o6, S) = some (.nx, (rW rs m (wk R m n f p l).1 (wk R m n f p l).2.1 [] o3 o6', S))) ∧
    ((wk R m n f p l).2.2 ≠ [] → ∃ ρ, whileL (evT tW) (evSs walked_b0) N (rW rs m f p l o3 o6, S) = some (.rt (.tup [.lst ((wk R m n f p l).1.map enT), .lst (enI (wk R m n f p l).2.2)]), (ρ, S)))
  | 0, N, f, p, l, o3, o6, W, hp, hN => by
    have := nodup_le m p W.nd W.lt
    omega
  | n + 1, 0, f, p, l, o3, o6, W, hp, hN => by omega
  | n + 1, N + 1, f, p, l, o3, o6, W, hp, hN => by
    have ht := walked_t hrs hR hm hl S (f := f) (p := p) (l := l) o3 o6
    unfold wk whileL
    by_cases h1 : l = []
    · subst h1
      rw [if_pos rfl, ht, Option.bind_some]
      exact ⟨fun _ => ⟨o6, rfl⟩, fun h => absurd rfl h⟩
    · rw [if_neg h1, ht, Option.bind_some]
      simp only [decide_eq_false h1, Bool.not_false, if_true]
      by_cases h2 : nextL (rowsOf R l) p m = []
      · rw [if_pos h2]
        obtain ⟨ρ, e⟩ := walked_stop hrs hR hm hl S W h1 h2 o3 o6
        rw [e, Option.bind_some]
        exact ⟨fun h => absurd h h1, fun _ => ⟨ρ, rfl⟩⟩
      · rw [if_neg h2, walked_go hrs hR hm hl S W h1 h2 o3 o6, Option.bind_some]
        exact walked_while n N o3 _ (W.step hR h2) (by
          rw [List.length_append]
          have : 0 < (nextL (rowsOf R l) p m).length := List.length_pos_iff.mpr h2
          omega) (by omega)
end
end KK
set_option Elab.async false
set_option linter.all false
set_option maxRecDepth 100000
set_option maxHeartbeats 1000000
/-! P14: walked, do_fit, quarrel as the program has them -/
namespace KK
open PySem DE
def walkF (R : List (List Nat)) (m : Nat) : List (List Nat) := if (walk R m).2.2 = [] then (if restL (walk R m).2.1 m = [] then (walk R m).1 else (walk R m).1 ++ [restL (walk R m).2.1 m]) else (walk R m).1
theorem plains_enT (l : List (List Nat)) : (l.map enT).all D.plain = true := by
  rw [List.all_map, List.all_eq_true]; exact fun _ _ => rfl
theorem shps_enT {n : Nat} (l : List (List Nat)) : (l.map enT).all (dpt (n + 1)) = true := by
  rw [List.all_map, List.all_eq_true]; exact fun o _ => dpts_int (fun k : Nat => (k : Int)) o
section
variable {rs : D} {R : List (List Nat)} {m : Nat} (hrs : SqD rs R) (hR : ∀ r ∈ R, Row m r) (hm : m ≤ 8) (hl : R.length ≤ 1000) (S : Store)
include hrs hR hm hl
theorem walked_c4_eq : evF walked_c4 ([some (.imm rs), some (.imm (.int (m : Nat))), none, none, some (.own []), some (.own []), none, none, none, none], S) = some (enI (open0 R), ([some (.imm rs), some (.imm (.int (m : Nat))), none, none, some (.own []), some (.own []), none, none, none, none], S)) := by
  unfold walked_c4
  rw [← open0_zip]
  refine comp_two R.zipIdx (fun p => D.int (p.2 : Nat)) (fun p => D.str p.1) _ _ ?_ rfl (by omega) (by simp; omega) fun p hp => ⟨?_, fun _ => ⟨rfl, rfl⟩⟩
  · simp only [EV0, EV1, EV2, EV3, EV4, EV5, EV6, EV7, EV8, EV9, EV10, EV11, EV12, EV13, EV14, EV15, EV16, Option.bind_some, Option.bind_none, Option.map_some, Option.map_none, List.getElem?_cons_zero, List.getElem?_cons_succ, List.set_cons_zero, List.set_cons_succ, List.map_cons, List.map_nil, List.length_cons, List.length_nil, List.cons_append, List.nil_append, Bool.and_true, Bool.true_and, Bool.and_false, Bool.false_and, List.all_cons, List.all_nil, List.replicate, Bool.not_true, Bool.not_false, Bool.false_eq_true, if_true, if_false, ↓reduceIte, decide_true, decide_false, Nat.zero_add, Nat.reduceAdd, Nat.reduceSub, dd_lnbor, dd_lnown, dd_lnbrw, dd_plT, dd_rdT, dd_lnT, dd_dvT, dd_itT, dd_isT, dd_tyT, dd_lenT, dd_esT, dd_tpT, dd_lsT, dd_plB, dd_rdB, dd_lnB, dd_dvB, dd_icB, dd_f4B, dd_f5B, dd_f6B, hrs.en, enum_map]
  · by_cases h1 : 43 ∈ p.1
    · simp only [EV0, EV1, EV2, EV3, EV4, EV5, EV6, EV7, EV8, EV9, EV10, EV11, EV12, EV13, EV14, EV15, EV16, Option.bind_some, Option.bind_none, Option.map_some, Option.map_none, List.getElem?_cons_zero, List.getElem?_cons_succ, List.set_cons_zero, List.set_cons_succ, List.map_cons, List.map_nil, List.length_cons, List.length_nil, List.cons_append, List.nil_append, Bool.and_true, Bool.true_and, Bool.and_false, Bool.false_and, List.all_cons, List.all_nil, List.replicate, Bool.not_true, Bool.not_false, Bool.false_eq_true, if_true, if_false, ↓reduceIte, decide_true, decide_false, Nat.zero_add, Nat.reduceAdd, Nat.reduceSub, dd_lnbor, dd_lnown, dd_lnbrw, dd_plT, dd_rdT, dd_lnT, dd_dvT, dd_itT, dd_isT, dd_tyT, dd_lenT, dd_esT, dd_tpT, dd_lsT, dd_plB, dd_rdB, dd_lnB, dd_dvB, dd_icB, dd_f4B, dd_f5B, dd_f6B, in_row, h1, Bool.true_or]
    · simp only [EV0, EV1, EV2, EV3, EV4, EV5, EV6, EV7, EV8, EV9, EV10, EV11, EV12, EV13, EV14, EV15, EV16, Option.bind_some, Option.bind_none, Option.map_some, Option.map_none, List.getElem?_cons_zero, List.getElem?_cons_succ, List.set_cons_zero, List.set_cons_succ, List.map_cons, List.map_nil, List.length_cons, List.length_nil, List.cons_append, List.nil_append, Bool.and_true, Bool.true_and, Bool.and_false, Bool.false_and, List.all_cons, List.all_nil, List.replicate, Bool.not_true, Bool.not_false, Bool.false_eq_true, if_true, if_false, ↓reduceIte, decide_true, decide_false, Nat.zero_add, Nat.reduceAdd, Nat.reduceSub, dd_lnbor, dd_lnown, dd_lnbrw, dd_plT, dd_rdT, dd_lnT, dd_dvT, dd_itT, dd_isT, dd_tyT, dd_lenT, dd_esT, dd_tpT, dd_lsT, dd_plB, dd_rdB, dd_lnB, dd_dvB, dd_icB, dd_f4B, dd_f5B, dd_f6B, in_row, h1, Bool.false_or]
theorem walked_eq : m_walked [rs, .int (m : Nat)] S = some (.tup [.lst ((walkF R m).map enT), .lst (enI (walk R m).2.2)], S) := by
  have h4 := walked_c4_eq hrs hR hm hl S
  have hw := walked_while hrs hR hm hl S (m + 1) 1000 none none (WI.start hR) (by simp) (by omega)
  have W := walk_inv hR
  have hlen := W.len
  have hpl : (walk R m).2.1.length ≤ m := nodup_le m _ W.nd W.lt
  obtain ⟨hA, hB⟩ := hw
  unfold walkF
  by_cases hx : (walk R m).2.2 = []
  · obtain ⟨o6', e⟩ := hA hx
    have e : whileL (evT tW) (evSs walked_b0) 1000 (rW rs m [] [] (open0 R) none none, S) = some (.nx, (rW rs m (walk R m).1 (walk R m).2.1 [] none o6', S)) := e
    have hc0 : evF walked_c0 (rW rs m (walk R m).1 (walk R m).2.1 [] none o6', S) = some (enI (restL (walk R m).2.1 m), (rW rs m (walk R m).1 (walk R m).2.1 [] none o6', S)) := by
      unfold walked_c0
      refine comp_nm (List.range m) (fun k => D.int (k : Nat)) (fun r => !decide (r ∈ (walk R m).2.1)) (fun k => D.int (k : Nat)) (evI_rng rfl (by omega)) rfl (by simp; omega) fun r hr => ⟨?_, fun _ => ⟨rfl, rfl⟩⟩
      simp only [EV0, EV1, EV2, EV3, EV4, EV5, EV6, EV7, EV8, EV9, EV10, EV11, EV12, EV13, EV14, EV15, EV16, Option.bind_some, Option.bind_none, Option.map_some, Option.map_none, List.getElem?_cons_zero, List.getElem?_cons_succ, List.set_cons_zero, List.set_cons_succ, List.map_cons, List.map_nil, List.length_cons, List.length_nil, List.cons_append, List.nil_append, Bool.and_true, Bool.true_and, Bool.and_false, Bool.false_and, List.all_cons, List.all_nil, List.replicate, Bool.not_true, Bool.not_false, Bool.false_eq_true, if_true, if_false, ↓reduceIte, decide_true, decide_false, Nat.zero_add, Nat.reduceAdd, Nat.reduceSub, dd_lnbor, dd_lnown, dd_lnbrw, dd_plT, dd_rdT, dd_lnT, dd_dvT, dd_itT, dd_isT, dd_tyT, dd_lenT, dd_esT, dd_tpT, dd_lsT, dd_plB, dd_rdB, dd_lnB, dd_dvB, dd_icB, dd_f4B, dd_f5B, dd_f6B, nin_lst]
    have hn := ne_nil (dpts_enI (restL (walk R m).2.1 m))
    rw [enI_nil_iff] at hn
    generalize (walk R m).1 = f at *
    generalize (walk R m).2.1 = p at *
    rw [if_pos hx, hx]
    unfold rW at e hc0
    unfold m_walked ir_walked
    by_cases hr : restL p m = []
    · rw [if_pos hr]
      rw [hr, decide_eq_true rfl] at hn
      simp only [EV0, EV1, EV2, EV3, EV4, EV5, EV6, EV7, EV8, EV9, EV10, EV11, EV12, EV13, EV14, EV15, EV16, Option.bind_some, Option.bind_none, Option.map_some, Option.map_none, List.getElem?_cons_zero, List.getElem?_cons_succ, List.set_cons_zero, List.set_cons_succ, List.map_cons, List.map_nil, List.length_cons, List.length_nil, List.cons_append, List.nil_append, Bool.and_true, Bool.true_and, Bool.and_false, Bool.false_and, List.all_cons, List.all_nil, List.replicate, Bool.not_true, Bool.not_false, Bool.false_eq_true, if_true, if_false, ↓reduceIte, decide_true, decide_false, Nat.zero_add, Nat.reduceAdd, Nat.reduceSub, dd_lnbor, dd_lnown, dd_lnbrw, dd_plT, dd_rdT, dd_lnT, dd_dvT, dd_itT, dd_isT, dd_tyT, dd_lenT, dd_esT, dd_tpT, dd_lsT, dd_plB, dd_rdB, dd_lnB, dd_dvB, dd_icB, dd_f4B, dd_f5B, dd_f6B, hrs.dv, h4, show enI [] = ([] : List D) from rfl] at e hc0 ⊢
      simp only [EV0, EV1, EV2, EV3, EV4, EV5, EV6, EV7, EV8, EV9, EV10, EV11, EV12, EV13, EV14, EV15, EV16, Option.bind_some, Option.bind_none, Option.map_some, Option.map_none, List.getElem?_cons_zero, List.getElem?_cons_succ, List.set_cons_zero, List.set_cons_succ, List.map_cons, List.map_nil, List.length_cons, List.length_nil, List.cons_append, List.nil_append, Bool.and_true, Bool.true_and, Bool.and_false, Bool.false_and, List.all_cons, List.all_nil, List.replicate, Bool.not_true, Bool.not_false, Bool.false_eq_true, if_true, if_false, ↓reduceIte, decide_true, decide_false, Nat.zero_add, Nat.reduceAdd, Nat.reduceSub, dd_lnbor, dd_lnown, dd_lnbrw, dd_plT, dd_rdT, dd_lnT, dd_dvT, dd_itT, dd_isT, dd_tyT, dd_lenT, dd_esT, dd_tpT, dd_lsT, dd_plB, dd_rdB, dd_lnB, dd_dvB, dd_icB, dd_f4B, dd_f5B, dd_f6B, e, hc0, hr, hn]
    · rw [if_neg hr]
      rw [decide_eq_false hr] at hn
      have hp1 := plains_enT (f ++ [restL p m])
      have hp2 : okLen ((f ++ [restL p m]).map enT) = true := okLen_of (by simp; omega)
      have hp3 : f.map enT ++ [.tup (enI (restL p m))] = (f ++ [restL p m]).map enT := by simp [enT]
      simp only [EV0, EV1, EV2, EV3, EV4, EV5, EV6, EV7, EV8, EV9, EV10, EV11, EV12, EV13, EV14, EV15, EV16, Option.bind_some, Option.bind_none, Option.map_some, Option.map_none, List.getElem?_cons_zero, List.getElem?_cons_succ, List.set_cons_zero, List.set_cons_succ, List.map_cons, List.map_nil, List.length_cons, List.length_nil, List.cons_append, List.nil_append, Bool.and_true, Bool.true_and, Bool.and_false, Bool.false_and, List.all_cons, List.all_nil, List.replicate, Bool.not_true, Bool.not_false, Bool.false_eq_true, if_true, if_false, ↓reduceIte, decide_true, decide_false, Nat.zero_add, Nat.reduceAdd, Nat.reduceSub, dd_lnbor, dd_lnown, dd_lnbrw, dd_plT, dd_rdT, dd_lnT, dd_dvT, dd_itT, dd_isT, dd_tyT, dd_lenT, dd_esT, dd_tpT, dd_lsT, dd_plB, dd_rdB, dd_lnB, dd_dvB, dd_icB, dd_f4B, dd_f5B, dd_f6B, hrs.dv, h4, show enI [] = ([] : List D) from rfl] at e hc0 ⊢
      simp only [EV0, EV1, EV2, EV3, EV4, EV5, EV6, EV7, EV8, EV9, EV10, EV11, EV12, EV13, EV14, EV15, EV16, Option.bind_some, Option.bind_none, Option.map_some, Option.map_none, List.getElem?_cons_zero, List.getElem?_cons_succ, List.set_cons_zero, List.set_cons_succ, List.map_cons, List.map_nil, List.length_cons, List.length_nil, List.cons_append, List.nil_append, Bool.and_true, Bool.true_and, Bool.and_false, Bool.false_and, List.all_cons, List.all_nil, List.replicate, Bool.not_true, Bool.not_false, Bool.false_eq_true, if_true, if_false, ↓reduceIte, decide_true, decide_false, Nat.zero_add, Nat.reduceAdd, Nat.reduceSub, dd_lnbor, dd_lnown, dd_lnbrw, dd_plT, dd_rdT, dd_lnT, dd_dvT, dd_itT, dd_isT, dd_tyT, dd_lenT, dd_esT, dd_tpT, dd_lsT, dd_plB, dd_rdB, dd_lnB, dd_dvB, dd_icB, dd_f4B, dd_f5B, dd_f6B, e, hc0, hn, hp1, hp2, hp3]
  · obtain ⟨ρ, e⟩ := hB hx
    have e : whileL (evT tW) (evSs walked_b0) 1000 (rW rs m [] [] (open0 R) none none, S) = some (.rt (.tup [.lst ((walk R m).1.map enT), .lst (enI (walk R m).2.2)]), (ρ, S)) := e
    rw [if_neg hx]
    unfold rW at e
    unfold m_walked ir_walked
    simp only [EV0, EV1, EV2, EV3, EV4, EV5, EV6, EV7, EV8, EV9, EV10, EV11, EV12, EV13, EV14, EV15, EV16, Option.bind_some, Option.bind_none, Option.map_some, Option.map_none, List.getElem?_cons_zero, List.getElem?_cons_succ, List.set_cons_zero, List.set_cons_succ, List.map_cons, List.map_nil, List.length_cons, List.length_nil, List.cons_append, List.nil_append, Bool.and_true, Bool.true_and, Bool.and_false, Bool.false_and, List.all_cons, List.all_nil, List.replicate, Bool.not_true, Bool.not_false, Bool.false_eq_true, if_true, if_false, ↓reduceIte, decide_true, decide_false, Nat.zero_add, Nat.reduceAdd, Nat.reduceSub, dd_lnbor, dd_lnown, dd_lnbrw, dd_plT, dd_rdT, dd_lnT, dd_dvT, dd_itT, dd_isT, dd_tyT, dd_lenT, dd_esT, dd_tpT, dd_lsT, dd_plB, dd_rdB, dd_lnB, dd_dvB, dd_icB, dd_f4B, dd_f5B, dd_f6B, hrs.dv, h4, show enI [] = ([] : List D) from rfl] at e ⊢
    simp only [EV0, EV1, EV2, EV3, EV4, EV5, EV6, EV7, EV8, EV9, EV10, EV11, EV12, EV13, EV14, EV15, EV16, Option.bind_some, Option.bind_none, Option.map_some, Option.map_none, List.getElem?_cons_zero, List.getElem?_cons_succ, List.set_cons_zero, List.set_cons_succ, List.map_cons, List.map_nil, List.length_cons, List.length_nil, List.cons_append, List.nil_append, Bool.and_true, Bool.true_and, Bool.and_false, Bool.false_and, List.all_cons, List.all_nil, List.replicate, Bool.not_true, Bool.not_false, Bool.false_eq_true, if_true, if_false, ↓reduceIte, decide_true, decide_false, Nat.zero_add, Nat.reduceAdd, Nat.reduceSub, dd_lnbor, dd_lnown, dd_lnbrw, dd_plT, dd_rdT, dd_lnT, dd_dvT, dd_itT, dd_isT, dd_tyT, dd_lenT, dd_esT, dd_tpT, dd_lsT, dd_plB, dd_rdB, dd_lnB, dd_dvB, dd_icB, dd_f4B, dd_f5B, dd_f6B, e]
theorem do_fit_eq : m_do_fit [rs, .int (m : Nat)] S = some (.bl (decide ((walk R m).2.2 = [])), S) := by
  have e := walked_eq hrs hR hm hl S
  have h := eq_nil (dpts_enI (walk R m).2.2)
  rw [enI_nil_iff] at h
  unfold m_do_fit ir_do_fit
  simp only [EV0, EV1, EV2, EV3, EV4, EV5, EV6, EV7, EV8, EV9, EV10, EV11, EV12, EV13, EV14, EV15, EV16, Option.bind_some, Option.bind_none, Option.map_some, Option.map_none, List.getElem?_cons_zero, List.getElem?_cons_succ, List.set_cons_zero, List.set_cons_succ, List.map_cons, List.map_nil, List.length_cons, List.length_nil, List.cons_append, List.nil_append, Bool.and_true, Bool.true_and, Bool.and_false, Bool.false_and, List.all_cons, List.all_nil, List.replicate, Bool.not_true, Bool.not_false, Bool.false_eq_true, if_true, if_false, ↓reduceIte, decide_true, decide_false, Nat.zero_add, Nat.reduceAdd, Nat.reduceSub, dd_lnbor, dd_lnown, dd_lnbrw, dd_plT, dd_rdT, dd_lnT, dd_dvT, dd_itT, dd_isT, dd_tyT, dd_lenT, dd_esT, dd_tpT, dd_lsT, dd_plB, dd_rdB, dd_lnB, dd_dvB, dd_icB, dd_f4B, dd_f5B, dd_f6B, hrs.dv, hrs.ln, e, ix_t1, h]
end
/-! ### quarrels -/
def qstep (R : List (List Nat)) (m : Nat) (lot : List Nat) (k : Nat) : List Nat := if (walk (rowsOf R (lot.filter fun j => !decide (j = k))) m).2.2 = [] then lot else lot.filter fun j => !decide (j = k)
def qlot (R : List (List Nat)) (m : Nat) : List Nat := (walk R m).2.2.foldl (qstep R m) (walk R m).2.2
theorem qstep_sub (R : List (List Nat)) (m : Nat) (lot : List Nat) (k : Nat) : (qstep R m lot k).Sublist lot := by
  unfold qstep
  split
  · exact List.Sublist.refl _
  · exact List.filter_sublist ..
theorem qfold_sub (R : List (List Nat)) (m : Nat) : ∀ (ks lot : List Nat), (ks.foldl (qstep R m) lot).Sublist lot
  | [], _ => List.Sublist.refl _
  | k :: ks, lot => (qfold_sub R m ks _).trans (qstep_sub R m lot k)
theorem ne_int {a b : Nat} : neD (.int (a : Nat)) (.int (b : Nat)) = some (.bl (!decide (a = b))) := by
  rw [ne_ii]
  have : decide (((a : Nat) : Int) = (b : Nat)) = decide (a = b) := by rw [decide_eq_decide]; omega
  rw [this]
theorem walk_left_len {R : List (List Nat)} {m : Nat} (hR : ∀ r ∈ R, Row m r) : (walk R m).2.2.length ≤ R.length := Nat.le_trans (walk_inv hR).sub.length_le (Nat.le_trans (List.length_filter_le _ _) (by simp))
section
variable {rs : D} {R : List (List Nat)} {m : Nat} (hrs : SqD rs R) (hR : ∀ r ∈ R, Row m r) (hm : m ≤ 8) (hl : R.length ≤ 1000) (S : Store)
include hrs hR hm hl
theorem quarrel_b0_eq {lot : List Nat} (hlot : ∀ k ∈ lot, k < R.length) (hll : lot.length ≤ 1000) (k : Nat) (o4 : Option DV) : ∃ o4', evSs quarrel_in_b0 ([some (.imm rs), some (.imm (.int (m : Nat))), some (.imm (.lst (enI lot))), some (.imm (.int (k : Nat))), o4, none], S) = some (.nx, ([some (.imm rs), some (.imm (.int (m : Nat))), some (.imm (.lst (enI (qstep R m lot k)))), some (.imm (.int (k : Nat))), o4', none], S)) := by
  let less := lot.filter fun j => !decide (j = k)
  have hless : ∀ j ∈ less, j < R.length := fun j hj => hlot j (List.mem_filter.mp hj).1
  have hlen : less.length ≤ 1000 := Nat.le_trans (List.length_filter_le _ _) hll
  have h1 : evF quarrel_in_c1 ([some (.imm rs), some (.imm (.int (m : Nat))), some (.imm (.lst (enI lot))), some (.imm (.int (k : Nat))), o4, none], S) = some (enI less, ([some (.imm rs), some (.imm (.int (m : Nat))), some (.imm (.lst (enI lot))), some (.imm (.int (k : Nat))), o4, none], S)) := by
    unfold quarrel_in_c1
    refine comp_nm lot (fun k => D.int (k : Nat)) (fun j => !decide (j = k)) (fun k => D.int (k : Nat)) rfl rfl (by omega) fun j hj => ⟨?_, fun _ => ⟨rfl, rfl⟩⟩
    have hd : decide (((j : Nat) : Int) = (k : Nat)) = decide (j = k) := by rw [decide_eq_decide]; omega
    simp only [EV0, EV1, EV2, EV3, EV4, EV5, EV6, EV7, EV8, EV9, EV10, EV11, EV12, EV13, EV14, EV15, EV16, Option.bind_some, Option.bind_none, Option.map_some, Option.map_none, List.getElem?_cons_zero, List.getElem?_cons_succ, List.set_cons_zero, List.set_cons_succ, List.map_cons, List.map_nil, List.length_cons, List.length_nil, List.cons_append, List.nil_append, Bool.and_true, Bool.true_and, Bool.and_false, Bool.false_and, List.all_cons, List.all_nil, List.replicate, Bool.not_true, Bool.not_false, Bool.false_eq_true, if_true, if_false, ↓reduceIte, decide_true, decide_false, Nat.zero_add, Nat.reduceAdd, Nat.reduceSub, dd_lnbor, dd_lnown, dd_lnbrw, dd_plT, dd_rdT, dd_lnT, dd_dvT, dd_itT, dd_isT, dd_tyT, dd_lenT, dd_esT, dd_tpT, dd_lsT, dd_plB, dd_rdB, dd_lnB, dd_dvB, dd_icB, dd_f4B, dd_f5B, dd_f6B, hd]
  have h2 : evF quarrel_in_c0 ([some (.imm rs), some (.imm (.int (m : Nat))), some (.imm (.lst (enI lot))), some (.imm (.int (k : Nat))), some (.imm (.lst (enI less))), none], S) = some ((rowsOf R less).map D.str, ([some (.imm rs), some (.imm (.int (m : Nat))), some (.imm (.lst (enI lot))), some (.imm (.int (k : Nat))), some (.imm (.lst (enI less))), none], S)) := by
    unfold quarrel_in_c0 rowsOf
    rw [List.map_map]
    refine comp_map less (fun k => D.int (k : Nat)) _ rfl rfl (by omega) fun j hj => ⟨?_, rfl⟩
    simp only [EV0, EV1, EV2, EV3, EV4, EV5, EV6, EV7, EV8, EV9, EV10, EV11, EV12, EV13, EV14, EV15, EV16, Option.bind_some, Option.bind_none, Option.map_some, Option.map_none, List.getElem?_cons_zero, List.getElem?_cons_succ, List.set_cons_zero, List.set_cons_succ, List.map_cons, List.map_nil, List.length_cons, List.length_nil, List.cons_append, List.nil_append, Bool.and_true, Bool.true_and, Bool.and_false, Bool.false_and, List.all_cons, List.all_nil, List.replicate, Bool.not_true, Bool.not_false, Bool.false_eq_true, if_true, if_false, ↓reduceIte, decide_true, decide_false, Nat.zero_add, Nat.reduceAdd, Nat.reduceSub, dd_lnbor, dd_lnown, dd_lnbrw, dd_plT, dd_rdT, dd_lnT, dd_dvT, dd_itT, dd_isT, dd_tyT, dd_lenT, dd_esT, dd_tpT, dd_lsT, dd_plB, dd_rdB, dd_lnB, dd_dvB, dd_icB, dd_f4B, dd_f5B, dd_f6B, hrs.rd, hrs.ix (hless j hj)]
    rfl
  have h3 := do_fit_eq (rs := .lst ((rowsOf R less).map D.str)) (.inl rfl) (rowsOf_row hR hless) hm (by unfold rowsOf; simpa using hlen) S
  refine ⟨some (.imm (.lst (enI less))), ?_⟩
  unfold quarrel_in_b0 qstep
  by_cases h : (walk (rowsOf R less) m).2.2 = []
  · rw [if_pos h]
    rw [decide_eq_true h] at h3
    simp only [EV0, EV1, EV2, EV3, EV4, EV5, EV6, EV7, EV8, EV9, EV10, EV11, EV12, EV13, EV14, EV15, EV16, Option.bind_some, Option.bind_none, Option.map_some, Option.map_none, List.getElem?_cons_zero, List.getElem?_cons_succ, List.set_cons_zero, List.set_cons_succ, List.map_cons, List.map_nil, List.length_cons, List.length_nil, List.cons_append, List.nil_append, Bool.and_true, Bool.true_and, Bool.and_false, Bool.false_and, List.all_cons, List.all_nil, List.replicate, Bool.not_true, Bool.not_false, Bool.false_eq_true, if_true, if_false, ↓reduceIte, decide_true, decide_false, Nat.zero_add, Nat.reduceAdd, Nat.reduceSub, dd_lnbor, dd_lnown, dd_lnbrw, dd_plT, dd_rdT, dd_lnT, dd_dvT, dd_itT, dd_isT, dd_tyT, dd_lenT, dd_esT, dd_tpT, dd_lsT, dd_plB, dd_rdB, dd_lnB, dd_dvB, dd_icB, dd_f4B, dd_f5B, dd_f6B, h1, h2, h3]
  · rw [if_neg h]
    rw [decide_eq_false h] at h3
    simp only [EV0, EV1, EV2, EV3, EV4, EV5, EV6, EV7, EV8, EV9, EV10, EV11, EV12, EV13, EV14, EV15, EV16, Option.bind_some, Option.bind_none, Option.map_some, Option.map_none, List.getElem?_cons_zero, List.getElem?_cons_succ, List.set_cons_zero, List.set_cons_succ, List.map_cons, List.map_nil, List.length_cons, List.length_nil, List.cons_append, List.nil_append, Bool.and_true, Bool.true_and, Bool.and_false, Bool.false_and, List.all_cons, List.all_nil, List.replicate, Bool.not_true, Bool.not_false, Bool.false_eq_true, if_true, if_false, ↓reduceIte, decide_true, decide_false, Nat.zero_add, Nat.reduceAdd, Nat.reduceSub, dd_lnbor, dd_lnown, dd_lnbrw, dd_plT, dd_rdT, dd_lnT, dd_dvT, dd_itT, dd_isT, dd_tyT, dd_lenT, dd_esT, dd_tpT, dd_lsT, dd_plB, dd_rdB, dd_lnB, dd_dvB, dd_icB, dd_f4B, dd_f5B, dd_f6B, h1, h2, h3]
    rfl
theorem quarrel_in_eq : m_quarrel_in [rs, .int (m : Nat)] S = some (if (walk R m).2.2 = [] then .non else enT (qlot R m), S) := by
  have e := walked_eq hrs hR hm hl S
  have h := eq_nil (dpts_enI (walk R m).2.2)
  rw [enI_nil_iff] at h
  have hw := walk_left_len hR
  by_cases hx : (walk R m).2.2 = []
  · rw [if_pos hx]
    rw [decide_eq_true hx] at h
    unfold m_quarrel_in ir_quarrel_in
    simp only [EV0, EV1, EV2, EV3, EV4, EV5, EV6, EV7, EV8, EV9, EV10, EV11, EV12, EV13, EV14, EV15, EV16, Option.bind_some, Option.bind_none, Option.map_some, Option.map_none, List.getElem?_cons_zero, List.getElem?_cons_succ, List.set_cons_zero, List.set_cons_succ, List.map_cons, List.map_nil, List.length_cons, List.length_nil, List.cons_append, List.nil_append, Bool.and_true, Bool.true_and, Bool.and_false, Bool.false_and, List.all_cons, List.all_nil, List.replicate, Bool.not_true, Bool.not_false, Bool.false_eq_true, if_true, if_false, ↓reduceIte, decide_true, decide_false, Nat.zero_add, Nat.reduceAdd, Nat.reduceSub, dd_lnbor, dd_lnown, dd_lnbrw, dd_plT, dd_rdT, dd_lnT, dd_dvT, dd_itT, dd_isT, dd_tyT, dd_lenT, dd_esT, dd_tpT, dd_lsT, dd_plB, dd_rdB, dd_lnB, dd_dvB, dd_icB, dd_f4B, dd_f5B, dd_f6B, hrs.dv, hrs.ln, e, ix_t1, h]
  · rw [if_neg hx]
    rw [decide_eq_false hx] at h
    obtain ⟨z', e2, o3, o4, rfl⟩ := for_acc (g := .nm 3) (b := quarrel_in_b0) (walk R m).2.2 (fun k => D.int (k : Nat)) (fun n z => ∃ o3 o4 : Option DV, z = ([some (.imm rs), some (.imm (.int (m : Nat))), some (.imm (.lst (enI (((walk R m).2.2.take n).foldl (qstep R m) (walk R m).2.2)))), o3, o4, none], S)) (z := ([some (.imm rs), some (.imm (.int (m : Nat))), some (.imm (.lst (enI (walk R m).2.2))), none, none, none], S)) ⟨none, none, rfl⟩ (fun n k z hk hz => by
      obtain ⟨o3, o4, rfl⟩ := hz
      have hk1 := (List.getElem?_eq_some_iff.mp hk).1
      have hko := (List.getElem?_eq_some_iff.mp hk).2
      have hsub := qfold_sub R m ((walk R m).2.2.take n) (walk R m).2.2
      obtain ⟨o4', e3⟩ := quarrel_b0_eq hrs hR hm hl S (lot := ((walk R m).2.2.take n).foldl (qstep R m) (walk R m).2.2) (fun j hj => walk_lt hR j (hsub.subset hj)) (Nat.le_trans hsub.length_le (by omega)) k o4
      refine ⟨_, _, rfl, .inl e3, some (.imm (.int (k : Nat))), o4', ?_⟩
      rw [List.take_succ_eq_append_getElem hk1, List.foldl_append, hko]
      rfl)
    rw [List.take_length] at e2
    have e2 : forL (evG (.nm 3)) (evSs quarrel_in_b0) (enI (walk R m).2.2) ([some (.imm rs), some (.imm (.int (m : Nat))), some (.imm (.lst (enI (walk R m).2.2))), none, none, none], S) = some (.nx, ([some (.imm rs), some (.imm (.int (m : Nat))), some (.imm (.lst (enI (qlot R m)))), o3, o4, none], S)) := e2
    unfold m_quarrel_in ir_quarrel_in
    simp only [EV0, EV1, EV2, EV3, EV4, EV5, EV6, EV7, EV8, EV9, EV10, EV11, EV12, EV13, EV14, EV15, EV16, Option.bind_some, Option.bind_none, Option.map_some, Option.map_none, List.getElem?_cons_zero, List.getElem?_cons_succ, List.set_cons_zero, List.set_cons_succ, List.map_cons, List.map_nil, List.length_cons, List.length_nil, List.cons_append, List.nil_append, Bool.and_true, Bool.true_and, Bool.and_false, Bool.false_and, List.all_cons, List.all_nil, List.replicate, Bool.not_true, Bool.not_false, Bool.false_eq_true, if_true, if_false, ↓reduceIte, decide_true, decide_false, Nat.zero_add, Nat.reduceAdd, Nat.reduceSub, dd_lnbor, dd_lnown, dd_lnbrw, dd_plT, dd_rdT, dd_lnT, dd_dvT, dd_itT, dd_isT, dd_tyT, dd_lenT, dd_esT, dd_tpT, dd_lsT, dd_plB, dd_rdB, dd_lnB, dd_dvB, dd_icB, dd_f4B, dd_f5B, dd_f6B, hrs.dv, hrs.ln, e, ix_t1, h, e2]
    rfl
end
theorem quarrel_eq {L R : List (List Nat)} (hB : Bk L R) (S : Store) : m_quarrel [bookD L R] S = some (if (walk R L.length).2.2 = [] then .non else enT (qlot R L.length), S) := by
  have r20 := hB.r20
  have e := quarrel_in_eq (rs := .tup (R.map D.str)) (.inr rfl) hB.r hB.l8 (by omega) S
  unfold m_quarrel ir_quarrel
  simp only [EV0, EV1, EV2, EV3, EV4, EV5, EV6, EV7, EV8, EV9, EV10, EV11, EV12, EV13, EV14, EV15, EV16, Option.bind_some, Option.bind_none, Option.map_some, Option.map_none, List.getElem?_cons_zero, List.getElem?_cons_succ, List.set_cons_zero, List.set_cons_succ, List.map_cons, List.map_nil, List.length_cons, List.length_nil, List.cons_append, List.nil_append, Bool.and_true, Bool.true_and, Bool.and_false, Bool.false_and, List.all_cons, List.all_nil, List.replicate, Bool.not_true, Bool.not_false, Bool.false_eq_true, if_true, if_false, ↓reduceIte, decide_true, decide_false, Nat.zero_add, Nat.reduceAdd, Nat.reduceSub, dd_lnbor, dd_lnown, dd_lnbrw, dd_plT, dd_rdT, dd_lnT, dd_dvT, dd_itT, dd_isT, dd_tyT, dd_lenT, dd_esT, dd_tpT, dd_lsT, dd_plB, dd_rdB, dd_lnB, dd_dvB, dd_icB, dd_f4B, dd_f5B, dd_f6B, check_book_eq, List.length_map, e]
  by_cases h : (walk R L.length).2.2 = []
  · simp only [if_pos h, EV0, EV1, EV2, EV3, EV4, EV5, EV6, EV7, EV8, EV9, EV10, EV11, EV12, EV13, EV14, EV15, EV16, Option.bind_some, Option.bind_none, Option.map_some, Option.map_none, List.getElem?_cons_zero, List.getElem?_cons_succ, List.set_cons_zero, List.set_cons_succ, List.map_cons, List.map_nil, List.length_cons, List.length_nil, List.cons_append, List.nil_append, Bool.and_true, Bool.true_and, Bool.and_false, Bool.false_and, List.all_cons, List.all_nil, List.replicate, Bool.not_true, Bool.not_false, Bool.false_eq_true, if_true, if_false, ↓reduceIte, decide_true, decide_false, Nat.zero_add, Nat.reduceAdd, Nat.reduceSub, dd_lnbor, dd_lnown, dd_lnbrw, dd_plT, dd_rdT, dd_lnT, dd_dvT, dd_itT, dd_isT, dd_tyT, dd_lenT, dd_esT, dd_tpT, dd_lsT, dd_plB, dd_rdB, dd_lnB, dd_dvB, dd_icB, dd_f4B, dd_f5B, dd_f6B]
  · simp only [if_neg h, EV0, EV1, EV2, EV3, EV4, EV5, EV6, EV7, EV8, EV9, EV10, EV11, EV12, EV13, EV14, EV15, EV16, Option.bind_some, Option.bind_none, Option.map_some, Option.map_none, List.getElem?_cons_zero, List.getElem?_cons_succ, List.set_cons_zero, List.set_cons_succ, List.map_cons, List.map_nil, List.length_cons, List.length_nil, List.cons_append, List.nil_append, Bool.and_true, Bool.true_and, Bool.and_false, Bool.false_and, List.all_cons, List.all_nil, List.replicate, Bool.not_true, Bool.not_false, Bool.false_eq_true, if_true, if_false, ↓reduceIte, decide_true, decide_false, Nat.zero_add, Nat.reduceAdd, Nat.reduceSub, dd_lnbor, dd_lnown, dd_lnbrw, dd_plT, dd_rdT, dd_lnT, dd_dvT, dd_itT, dd_isT, dd_tyT, dd_lenT, dd_esT, dd_tpT, dd_lsT, dd_plB, dd_rdB, dd_lnB, dd_dvB, dd_icB, dd_f4B, dd_f5B, dd_f6B]
/-! ### the lot that is told -/
theorem qfold_inv {R : List (List Nat)} {m : Nat} (hR : ∀ r ∈ R, Row m r) : ∀ (ks lot : List Nat), (∀ k ∈ lot, k < R.length) → ¬ Fits (rowsOf R lot) m → ¬ Fits (rowsOf R (ks.foldl (qstep R m) lot)) m ∧ ∀ k ∈ ks, k ∈ ks.foldl (qstep R m) lot → Fits (rowsOf R ((ks.foldl (qstep R m) lot).filter fun j => !decide (j = k))) m
  | [], lot, _, h => ⟨h, fun k hk => by cases hk⟩
  | k :: ks, lot, hlt, h => by
    have hsub := qstep_sub R m lot k
    have hlt2 : ∀ j ∈ qstep R m lot k, j < R.length := fun j hj => hlt j (hsub.subset hj)
    have hless : ∀ j ∈ lot.filter (fun j => !decide (j = k)), j < R.length := fun j hj => hlt j (List.mem_filter.mp hj).1
    have hun : ¬ Fits (rowsOf R (qstep R m lot k)) m := by
      unfold qstep
      split
      · exact h
      · rename_i hne
        intro hf
        exact hne ((walk_iff (rowsOf_row hR hless)).mpr hf)
    obtain ⟨h1, h2⟩ := qfold_inv hR ks (qstep R m lot k) hlt2 hun
    refine ⟨h1, fun j hj hin => ?_⟩
    rcases List.mem_cons.mp hj with rfl | hj
    · have hfs := qfold_sub R m ks (qstep R m lot j)
      have hjq : j ∈ qstep R m lot j := hfs.subset hin
      unfold qstep at hjq
      split at hjq
      · rename_i he
        have hf := (walk_iff (rowsOf_row hR hless)).mp he
        refine hf.mono fun r hr => ?_
        obtain ⟨i, hi, rfl⟩ := List.mem_map.mp hr
        obtain ⟨hi1, hi2⟩ := List.mem_filter.mp hi
        exact List.mem_map.mpr ⟨i, List.mem_filter.mpr ⟨(hfs.trans (qstep_sub R m lot j)).subset hi1, hi2⟩, rfl⟩
      · exact absurd (List.mem_filter.mp hjq).2 (by simp)
    · exact h2 j hj hin
theorem qlot_sub (R : List (List Nat)) (m : Nat) : (qlot R m).Sublist (walk R m).2.2 := qfold_sub R m _ _
theorem qlot_lt {R : List (List Nat)} {m : Nat} (hR : ∀ r ∈ R, Row m r) : ∀ k ∈ qlot R m, k < R.length := fun k hk => walk_lt hR k ((qlot_sub R m).subset hk)
theorem open0_asc (R : List (List Nat)) : (open0 R).Pairwise (· < ·) := List.pairwise_lt_range.sublist (List.filter_sublist ..)
theorem qlot_asc {R : List (List Nat)} {m : Nat} (hR : ∀ r ∈ R, Row m r) : (qlot R m).Pairwise (· < ·) := (open0_asc R).sublist ((qlot_sub R m).trans (walk_inv hR).sub)
theorem qlot_spec {R : List (List Nat)} {m : Nat} (hR : ∀ r ∈ R, Row m r) (h : (walk R m).2.2 ≠ []) : ¬ Fits (rowsOf R (qlot R m)) m ∧ ∀ k ∈ qlot R m, Fits (rowsOf R ((qlot R m).filter fun j => !decide (j = k))) m := by
  have hun : ¬ Fits (rowsOf R (walk R m).2.2) m := quar_unfit (rowsOf_row hR (walk_lt hR)) (stuck_quar hR h)
  obtain ⟨h1, h2⟩ := qfold_inv hR (walk R m).2.2 (walk R m).2.2 (walk_lt hR) hun
  exact ⟨h1, fun k hk => h2 k ((qlot_sub R m).subset hk) hk⟩
/-- a lot of the told rows quarrels just if it is the whole -/
theorem qlot_quar {R : List (List Nat)} {m : Nat} (hR : ∀ r ∈ R, Row m r) (h : (walk R m).2.2 ≠ []) {X : List Nat} (hX : X.Sublist (qlot R m)) : quar (rowsOf R X) m = decide (X.length = (qlot R m).length) := by
  obtain ⟨h1, h2⟩ := qlot_spec hR h
  have hlt := qlot_lt (m := m) hR
  have small : ∀ Y : List Nat, (∀ j ∈ Y, j ∈ qlot R m) → (∃ k ∈ qlot R m, k ∉ Y) → Fits (rowsOf R Y) m := fun Y hY ⟨k, hk, hn⟩ => by
    refine (h2 k hk).mono fun r hr => ?_
    obtain ⟨i, hi, rfl⟩ := List.mem_map.mp hr
    refine List.mem_map.mpr ⟨i, List.mem_filter.mpr ⟨hY i hi, ?_⟩, rfl⟩
    have : i ≠ k := fun e => hn (e ▸ hi)
    simp [this]
  by_cases hl : X.length = (qlot R m).length
  · rw [decide_eq_true hl]
    have hXe : X = qlot R m := hX.eq_of_length hl
    rw [hXe]
    -- the rows that stay open among the told ones
    have hrow := rowsOf_row hR hlt
    have hne : (walk (rowsOf R (qlot R m)) m).2.2 ≠ [] := fun e => h1 ((walk_iff hrow).mp e)
    have hq := stuck_quar hrow hne
    have hlt2 := walk_lt (m := m) hrow
    have hun := quar_unfit (rowsOf_row hrow hlt2) hq
    -- by minimality they are all
    have hall : ∀ i, i < (qlot R m).length → i ∈ (walk (rowsOf R (qlot R m)) m).2.2 := fun i hi => by
      by_cases hin : i ∈ (walk (rowsOf R (qlot R m)) m).2.2
      · exact hin
      · refine absurd (Fits.mono (small ((qlot R m).eraseIdx i) (fun j hj => List.mem_of_mem_eraseIdx hj) ⟨(qlot R m)[i], List.getElem_mem hi, fun hm' => ?_⟩) fun r hr => ?_) hun
        · have hnd : (qlot R m).Nodup := by rw [List.nodup_iff_pairwise_ne]; exact (qlot_asc hR).imp fun h e => by omega
          obtain ⟨j, hj1, hj2, hj3⟩ := List.mem_eraseIdx_iff_getElem.mp hm'
          have ha := List.pairwise_iff_getElem.mp (qlot_asc (m := m) hR)
          rcases Nat.lt_or_gt_of_ne hj2 with hlt' | hlt'
          · have := ha j i hj1 hi hlt'; omega
          · have := ha i j hi hj1 hlt'; omega
        · obtain ⟨j, hj, rfl⟩ := List.mem_map.mp hr
          have hj2 := hlt2 j hj
          have hj3 : j < (qlot R m).length := by simpa [rowsOf] using hj2
          have hji : j ≠ i := fun e => hin (e ▸ hj)
          have eg : (rowsOf R (qlot R m)).getD j [] = R.getD (qlot R m)[j] [] := by
            rw [List.getD_eq_getElem?_getD, List.getElem?_eq_getElem hj2]
            simp [rowsOf]
          rw [eg]
          exact List.mem_map.mpr ⟨(qlot R m)[j], List.mem_eraseIdx_iff_getElem.mpr ⟨j, hj3, hji, rfl⟩, rfl⟩
    obtain ⟨hq1, hq2⟩ := quar_iff.mp hq
    have hmem : ∀ r, r ∈ rowsOf (rowsOf R (qlot R m)) (walk (rowsOf R (qlot R m)) m).2.2 ↔ r ∈ rowsOf R (qlot R m) := fun r => by
      refine ⟨fun hr => rowsOf_mem hlt2 r hr, fun hr => ?_⟩
      obtain ⟨i, hi, rfl⟩ := List.mem_iff_getElem.mp hr
      refine List.mem_map.mpr ⟨i, hall i (by simpa [rowsOf] using hi), ?_⟩
      rw [List.getD_eq_getElem?_getD, List.getElem?_eq_getElem hi]
      rfl
    refine quar_iff.mpr ⟨?_, fun k hk hp => ?_⟩
    · obtain ⟨k, hk, r, hr, e⟩ := hq1
      exact ⟨k, hk, r, (hmem r).mp hr, e⟩
    · obtain ⟨r, hr, e⟩ := hp
      obtain ⟨r', hr', e'⟩ := hq2 k hk ⟨r, (hmem r).mpr hr, e⟩
      exact ⟨r', (hmem r').mp hr', e'⟩
  · rw [decide_eq_false hl]
    have hnot : ∃ k ∈ qlot R m, k ∉ X := by
      apply Classical.byContradiction
      intro hc
      have hsub : ∀ k ∈ qlot R m, k ∈ X := fun k hk => Classical.byContradiction fun hn => hc ⟨k, hk, hn⟩
      have hnd : (qlot R m).Nodup := by rw [List.nodup_iff_pairwise_ne]; exact (qlot_asc hR).imp fun h e => by omega
      have hle := hX.length_le
      have hpm : (qlot R m).Perm X := by
        rw [List.perm_iff_count]
        intro a
        rw [hnd.count, (hnd.sublist hX).count]
        have : a ∈ qlot R m ↔ a ∈ X := ⟨hsub a, fun h => hX.subset h⟩
        simp only [this]
      exact hl hpm.length_eq.symm
    cases hq : quar (rowsOf R X) m with
    | false => rfl
    | true => exact absurd (small X (fun j hj => hX.subset hj) hnot) (quar_unfit (rowsOf_row hR fun k hk => hlt k (hX.subset hk)) hq)
end KK
set_option Elab.async false
set_option linter.all false
set_option maxRecDepth 100000
set_option maxHeartbeats 1000000
/-! P15: layers and left_over -/
namespace KK
open PySem DE
theorem tup_enT {l : List (List Nat)} : D.tup (l.map enT) = .tup (l.map enT) := rfl
theorem layers_eq {L R : List (List Nat)} (hB : Bk L R) (S : Store) : m_layers [bookD L R] S = some (if (walk R L.length).2.2 = [] then .tup ((walkF R L.length).map enT) else .non, S) := by
  have r20 := hB.r20
  have e := walked_eq (rs := .tup (R.map D.str)) (.inr rfl) hB.r hB.l8 (by omega) S
  have h := eq_nil (dpts_enI (walk R L.length).2.2)
  rw [enI_nil_iff] at h
  unfold m_layers ir_layers
  by_cases hx : (walk R L.length).2.2 = []
  · rw [if_pos hx]
    rw [decide_eq_true hx] at h
    simp only [EV0, EV1, EV2, EV3, EV4, EV5, EV6, EV7, EV8, EV9, EV10, EV11, EV12, EV13, EV14, EV15, EV16, Option.bind_some, Option.bind_none, Option.map_some, Option.map_none, List.getElem?_cons_zero, List.getElem?_cons_succ, List.set_cons_zero, List.set_cons_succ, List.map_cons, List.map_nil, List.length_cons, List.length_nil, List.cons_append, List.nil_append, Bool.and_true, Bool.true_and, Bool.and_false, Bool.false_and, List.all_cons, List.all_nil, List.replicate, Bool.not_true, Bool.not_false, Bool.false_eq_true, if_true, if_false, ↓reduceIte, decide_true, decide_false, Nat.zero_add, Nat.reduceAdd, Nat.reduceSub, dd_lnbor, dd_lnown, dd_lnbrw, dd_plT, dd_rdT, dd_lnT, dd_dvT, dd_itT, dd_isT, dd_tyT, dd_lenT, dd_esT, dd_tpT, dd_lsT, dd_plB, dd_rdB, dd_lnB, dd_dvB, dd_icB, dd_f4B, dd_f5B, dd_f6B, check_book_eq, List.length_map, e, h]
  · rw [if_neg hx]
    rw [decide_eq_false hx] at h
    simp only [EV0, EV1, EV2, EV3, EV4, EV5, EV6, EV7, EV8, EV9, EV10, EV11, EV12, EV13, EV14, EV15, EV16, Option.bind_some, Option.bind_none, Option.map_some, Option.map_none, List.getElem?_cons_zero, List.getElem?_cons_succ, List.set_cons_zero, List.set_cons_succ, List.map_cons, List.map_nil, List.length_cons, List.length_nil, List.cons_append, List.nil_append, Bool.and_true, Bool.true_and, Bool.and_false, Bool.false_and, List.all_cons, List.all_nil, List.replicate, Bool.not_true, Bool.not_false, Bool.false_eq_true, if_true, if_false, ↓reduceIte, decide_true, decide_false, Nat.zero_add, Nat.reduceAdd, Nat.reduceSub, dd_lnbor, dd_lnown, dd_lnbrw, dd_plT, dd_rdT, dd_lnT, dd_dvT, dd_itT, dd_isT, dd_tyT, dd_lenT, dd_esT, dd_tpT, dd_lsT, dd_plB, dd_rdB, dd_lnB, dd_dvB, dd_icB, dd_f4B, dd_f5B, dd_f6B, check_book_eq, List.length_map, e, h]
theorem left_over_eq {L R : List (List Nat)} (hB : Bk L R) (S : Store) : m_left_over [bookD L R] S = some (if (walk R L.length).2.2 = [] then .non else enT (walk R L.length).2.2, S) := by
  have r20 := hB.r20
  have e := walked_eq (rs := .tup (R.map D.str)) (.inr rfl) hB.r hB.l8 (by omega) S
  have h := ne_nil (dpts_enI (walk R L.length).2.2)
  rw [enI_nil_iff] at h
  unfold m_left_over ir_left_over
  by_cases hx : (walk R L.length).2.2 = []
  · rw [if_pos hx]
    rw [decide_eq_true hx] at h
    simp only [EV0, EV1, EV2, EV3, EV4, EV5, EV6, EV7, EV8, EV9, EV10, EV11, EV12, EV13, EV14, EV15, EV16, Option.bind_some, Option.bind_none, Option.map_some, Option.map_none, List.getElem?_cons_zero, List.getElem?_cons_succ, List.set_cons_zero, List.set_cons_succ, List.map_cons, List.map_nil, List.length_cons, List.length_nil, List.cons_append, List.nil_append, Bool.and_true, Bool.true_and, Bool.and_false, Bool.false_and, List.all_cons, List.all_nil, List.replicate, Bool.not_true, Bool.not_false, Bool.false_eq_true, if_true, if_false, ↓reduceIte, decide_true, decide_false, Nat.zero_add, Nat.reduceAdd, Nat.reduceSub, dd_lnbor, dd_lnown, dd_lnbrw, dd_plT, dd_rdT, dd_lnT, dd_dvT, dd_itT, dd_isT, dd_tyT, dd_lenT, dd_esT, dd_tpT, dd_lsT, dd_plB, dd_rdB, dd_lnB, dd_dvB, dd_icB, dd_f4B, dd_f5B, dd_f6B, check_book_eq, List.length_map, e, ix_t1, h]
  · rw [if_neg hx]
    rw [decide_eq_false hx] at h
    simp only [EV0, EV1, EV2, EV3, EV4, EV5, EV6, EV7, EV8, EV9, EV10, EV11, EV12, EV13, EV14, EV15, EV16, Option.bind_some, Option.bind_none, Option.map_some, Option.map_none, List.getElem?_cons_zero, List.getElem?_cons_succ, List.set_cons_zero, List.set_cons_succ, List.map_cons, List.map_nil, List.length_cons, List.length_nil, List.cons_append, List.nil_append, Bool.and_true, Bool.true_and, Bool.and_false, Bool.false_and, List.all_cons, List.all_nil, List.replicate, Bool.not_true, Bool.not_false, Bool.false_eq_true, if_true, if_false, ↓reduceIte, decide_true, decide_false, Nat.zero_add, Nat.reduceAdd, Nat.reduceSub, dd_lnbor, dd_lnown, dd_lnbrw, dd_plT, dd_rdT, dd_lnT, dd_dvT, dd_itT, dd_isT, dd_tyT, dd_lenT, dd_esT, dd_tpT, dd_lsT, dd_plB, dd_rdB, dd_lnB, dd_dvB, dd_icB, dd_f4B, dd_f5B, dd_f6B, check_book_eq, List.length_map, e, ix_t1, h]
    rfl
end KK
set_option Elab.async false
set_option linter.all false
set_option maxRecDepth 100000
set_option maxHeartbeats 1000000
/-! P16: what is sure; needless; alike -/
namespace KK
open PySem DE
theorem filtA {α : Type} {p : α → Bool} (f : α → D) : ∀ l : List α, ((l.filter fun x => !p x).map f).isEmpty = l.all p
  | [] => rfl
  | a :: l => by
    cases h : p a with
    | true => rw [List.filter_cons_of_neg (by simp [h]), filtA f l]; simp [h]
    | false => rw [List.filter_cons_of_pos (by simp [h])]; simp [h]
def sureB (R : List (List Nat)) (m : Nat) (row : List Nat) : Bool := (fit R m).all (hold row)
theorem sure_iff {R : List (List Nat)} {m : Nat} {row : List Nat} : sureB R m row = true ↔ ∀ o ∈ perms m, (∀ r ∈ R, hold r o = true) → hold row o = true := by
  unfold sureB fit
  rw [List.all_eq_true]
  constructor
  · intro h o ho hr
    exact h o (List.mem_filter.mpr ⟨ho, List.all_eq_true.mpr hr⟩)
  · intro h o ho
    obtain ⟨h1, h2⟩ := List.mem_filter.mp ho
    exact h o h1 (List.all_eq_true.mp h2)
theorem hold_nomin {row : List Nat} : ∀ {o : List Nat}, (∀ k ∈ o, sg row k = 46 ∨ sg row k = 43) → hold row o = true
  | [], _ => rfl
  | k :: o, h => by
    rw [hold]
    by_cases h1 : row.getD k 46 = 46
    · rw [if_pos h1]; exact hold_nomin fun j hj => h j (List.mem_cons_of_mem _ hj)
    · rw [if_neg h1]
      rcases h k (List.mem_cons_self ..) with e | e
      · exact absurd e h1
      · rw [show row.getD k 46 = 43 from e]; rfl
theorem hold_opp {m : Nat} {row : List Nat} (hr : Row m row) {o : List Nat} (ho : o ∈ perms m) {k : Nat} (hk : k < m) (hs : sg row k ≠ 46) : hold (row.map flip1) o = !hold row o := by
  have hp := perm_of_perms ho
  have hne : hold row o ≠ hold (row.map flip1) o := fun e => hs (hold_flip hr o (mem_perms.mp ho).2.2 e k (hp.mem_iff.mpr (by simpa using hk)))
  cases h1 : hold row o <;> cases h2 : hold (row.map flip1) o <;> simp_all
theorem sure_walk {R : List (List Nat)} {m : Nat} (hR : ∀ r ∈ R, Row m r) {row : List Nat} (hr : Row m row) : (if 45 ∈ row then !decide ((walk (R ++ [row.map flip1]) m).2.2 = []) else true) = sureB R m row := by
  have hR2 : ∀ r ∈ R ++ [row.map flip1], Row m r := fun r h => by
    rcases List.mem_append.mp h with h | h
    · exact hR r h
    · rw [List.mem_singleton.mp h]; exact hr.flip
  by_cases h45 : 45 ∈ row
  · rw [if_pos h45]
    obtain ⟨k, hk, e⟩ := List.mem_iff_getElem.mp h45
    have hs : sg row k ≠ 46 := by
      unfold sg
      rw [List.getD_eq_getElem?_getD, List.getElem?_eq_getElem hk]
      show row[k] ≠ 46
      omega
    have hkm : k < m := by rw [← hr.1]; exact hk
    by_cases hw : (walk (R ++ [row.map flip1]) m).2.2 = []
    · rw [decide_eq_true hw]
      obtain ⟨o, ho, hh⟩ := (walk_iff hR2).mp hw
      cases hS : sureB R m row with
      | false => rfl
      | true =>
        have h1 := sure_iff.mp hS o ho fun r h => hh r (List.mem_append_left _ h)
        have h2 := hh (row.map flip1) (List.mem_append_right _ (List.mem_singleton_self _))
        rw [hold_opp hr ho hkm hs, h1] at h2
        cases h2
    · rw [decide_eq_false hw]
      refine (sure_iff.mpr fun o ho hrs => ?_).symm
      cases hh : hold row o with
      | true => rfl
      | false =>
        refine absurd ((walk_iff hR2).mpr ⟨o, ho, fun r h => ?_⟩) hw
        rcases List.mem_append.mp h with h | h
        · exact hrs r h
        · rw [List.mem_singleton.mp h, hold_opp hr ho hkm hs, hh]; rfl
  · rw [if_neg h45]
    refine (sure_iff.mpr fun o ho _ => hold_nomin fun k hk => ?_).symm
    have hkm := (mem_perms.mp ho).2.2 k hk
    rcases sg_mem hr hkm with e | e | e
    · exact .inr e
    · refine absurd ?_ h45
      have hl : k < row.length := by rw [hr.1]; exact hkm
      unfold sg at e
      rw [List.getD_eq_getElem?_getD, List.getElem?_eq_getElem hl] at e
      exact e ▸ List.getElem_mem hl
    · exact .inl e
theorem its_sq {rs : D} {R : List (List Nat)} (h : SqD rs R) : itemsOf rs = some (R.map D.str) := by rcases h with rfl | rfl <;> rfl
theorem plains_str (l : List (List Nat)) : (l.map D.str).all D.plain = true := by
  rw [List.all_map, List.all_eq_true]; exact fun _ _ => rfl
theorem is_sure_eq {rs : D} {R : List (List Nat)} {m : Nat} (hrs : SqD rs R) (hR : ∀ r ∈ R, Row m r) (hm : m ≤ 8) (hl : R.length ≤ 900) {row : List Nat} (hr : Row m row) (S : Store) : m_is_sure [rs, .int (m : Nat), .str row] S = some (.bl (sureB R m row), S) := by
  have h1 := turned_eq row S hr.2 (by rw [hr.1]; omega)
  have h2 := do_fit_eq (rs := .lst ((R ++ [row.map flip1]).map D.str)) (.inl rfl) (R := R ++ [row.map flip1]) (m := m) (fun r h => by
    rcases List.mem_append.mp h with h | h
    · exact hR r h
    · rw [List.mem_singleton.mp h]; exact hr.flip) hm (by simp; omega) S
  have hn : ninD (.str [45]) (.str row) = some (.bl (!decide (45 ∈ row))) := rfl
  have ha : R.map D.str ++ [D.str (row.map flip1)] = (R ++ [row.map flip1]).map D.str := by simp
  have hp := plains_str (R ++ [row.map flip1])
  have ho : okLen ((R ++ [row.map flip1]).map D.str) = true := okLen_of (by simp; omega)
  rw [← sure_walk hR hr]
  unfold m_is_sure ir_is_sure
  by_cases h45 : 45 ∈ row
  · simp only [if_pos h45]
    simp only [EV0, EV1, EV2, EV3, EV4, EV5, EV6, EV7, EV8, EV9, EV10, EV11, EV12, EV13, EV14, EV15, EV16, Option.bind_some, Option.bind_none, Option.map_some, Option.map_none, List.getElem?_cons_zero, List.getElem?_cons_succ, List.set_cons_zero, List.set_cons_succ, List.map_cons, List.map_nil, List.length_cons, List.length_nil, List.cons_append, List.nil_append, Bool.and_true, Bool.true_and, Bool.and_false, Bool.false_and, List.all_cons, List.all_nil, List.replicate, Bool.not_true, Bool.not_false, Bool.false_eq_true, if_true, if_false, ↓reduceIte, decide_true, decide_false, Nat.zero_add, Nat.reduceAdd, Nat.reduceSub, dd_lnbor, dd_lnown, dd_lnbrw, dd_plT, dd_rdT, dd_lnT, dd_dvT, dd_itT, dd_isT, dd_tyT, dd_lenT, dd_esT, dd_tpT, dd_lsT, dd_plB, dd_rdB, dd_lnB, dd_dvB, dd_icB, dd_f4B, dd_f5B, dd_f6B, hrs.dv, hn, h45, or_if, hrs.rd, its_sq hrs, h1, ha, hp, ho, h2]
  · simp only [if_neg h45]
    simp only [EV0, EV1, EV2, EV3, EV4, EV5, EV6, EV7, EV8, EV9, EV10, EV11, EV12, EV13, EV14, EV15, EV16, Option.bind_some, Option.bind_none, Option.map_some, Option.map_none, List.getElem?_cons_zero, List.getElem?_cons_succ, List.set_cons_zero, List.set_cons_succ, List.map_cons, List.map_nil, List.length_cons, List.length_nil, List.cons_append, List.nil_append, Bool.and_true, Bool.true_and, Bool.and_false, Bool.false_and, List.all_cons, List.all_nil, List.replicate, Bool.not_true, Bool.not_false, Bool.false_eq_true, if_true, if_false, ↓reduceIte, decide_true, decide_false, Nat.zero_add, Nat.reduceAdd, Nat.reduceSub, dd_lnbor, dd_lnown, dd_lnbrw, dd_plT, dd_rdT, dd_lnT, dd_dvT, dd_itT, dd_isT, dd_tyT, dd_lenT, dd_esT, dd_tpT, dd_lsT, dd_plB, dd_rdB, dd_lnB, dd_dvB, dd_icB, dd_f4B, dd_f5B, dd_f6B, hrs.dv, hn, h45, or_if]
/-! ### needless -/
def ndl (R : List (List Nat)) (m : Nat) : List Nat := (List.range R.length).filter fun k => sureB (R.take k ++ R.drop (k + 1)) m (R.getD k [])
theorem cut_takeT {α : Type} (xs : List α) (k : Nat) : slD = slD := rfl
theorem sl_tup_to {ds : List D} {k : Nat} : slD (.tup ds) none (some ((k : Nat) : Int)) = some (.tup (ds.take k)) := by
  show some (D.tup (cutL ds none (some ((k : Nat) : Int)))) = _
  rw [cut_take]
theorem sl_tup_from {ds : List D} {k : Nat} : slD (.tup ds) (some ((k : Nat) + 1)) none = some (.tup (ds.drop (k + 1))) := by
  show some (D.tup (cutL ds (some (((k : Nat) : Int) + 1)) none)) = _
  rw [show ((k : Nat) : Int) + 1 = ((k + 1 : Nat) : Int) by omega, cut_drop]
theorem sl_lst_to {ds : List D} {k : Nat} : slD (.lst ds) none (some ((k : Nat) : Int)) = some (.lst (ds.take k)) := by
  show some (D.lst (cutL ds none (some ((k : Nat) : Int)))) = _
  rw [cut_take]
theorem sl_lst_from {ds : List D} {k : Nat} : slD (.lst ds) (some ((k : Nat) + 1)) none = some (.lst (ds.drop (k + 1))) := by
  show some (D.lst (cutL ds (some (((k : Nat) : Int) + 1)) none)) = _
  rw [show ((k : Nat) : Int) + 1 = ((k + 1 : Nat) : Int) by omega, cut_drop]
theorem add_tupT {a b : List D} (h : a.length + b.length ≤ 16777216) : addD (.tup a) (.tup b) = some (.tup (a ++ b)) := by
  unfold addD
  simp only [okN_of h, if_true]
theorem ndl_zip (R : List (List Nat)) (m : Nat) : ((R.zipIdx.filter fun p => sureB (R.take p.2 ++ R.drop (p.2 + 1)) m p.1).map fun p => D.int (p.2 : Nat)) = enI (ndl R m) := by
  rw [zipIdx_range, List.filter_map, List.map_map]
  rfl
theorem cutR_row {R : List (List Nat)} {m k : Nat} (hR : ∀ r ∈ R, Row m r) : ∀ r ∈ R.take k ++ R.drop (k + 1), Row m r := fun r h => by
  rcases List.mem_append.mp h with h | h
  · exact hR r (List.take_subset _ _ h)
  · exact hR r (List.drop_subset _ _ h)
theorem cutR_len {R : List (List Nat)} {k : Nat} : (R.take k ++ R.drop (k + 1)).length ≤ R.length := by simp; omega
theorem needless_eq {L R : List (List Nat)} (hB : Bk L R) (S : Store) : m_needless [bookD L R] S = some (enT (ndl R L.length), S) := by
  have r20 := hB.r20
  have hc : evF needless_c0 ([some (.imm (bookD L R)), some (.imm (.tup (R.map D.str))), some (.imm (.int (L.length : Nat))), none, none], S) = some (enI (ndl R L.length), ([some (.imm (bookD L R)), some (.imm (.tup (R.map D.str))), some (.imm (.int (L.length : Nat))), none, none], S)) := by
    unfold needless_c0
    rw [← ndl_zip]
    refine comp_two R.zipIdx (fun p => D.int (p.2 : Nat)) (fun p => D.str p.1) _ _ ?_ rfl (by omega) (by simp; omega) fun p hp => ⟨?_, fun _ => ⟨rfl, rfl⟩⟩
    · simp only [EV0, EV1, EV2, EV3, EV4, EV5, EV6, EV7, EV8, EV9, EV10, EV11, EV12, EV13, EV14, EV15, EV16, Option.bind_some, Option.bind_none, Option.map_some, Option.map_none, List.getElem?_cons_zero, List.getElem?_cons_succ, List.set_cons_zero, List.set_cons_succ, List.map_cons, List.map_nil, List.length_cons, List.length_nil, List.cons_append, List.nil_append, Bool.and_true, Bool.true_and, Bool.and_false, Bool.false_and, List.all_cons, List.all_nil, List.replicate, Bool.not_true, Bool.not_false, Bool.false_eq_true, if_true, if_false, ↓reduceIte, decide_true, decide_false, Nat.zero_add, Nat.reduceAdd, Nat.reduceSub, dd_lnbor, dd_lnown, dd_lnbrw, dd_plT, dd_rdT, dd_lnT, dd_dvT, dd_itT, dd_isT, dd_tyT, dd_lenT, dd_esT, dd_tpT, dd_lsT, dd_plB, dd_rdB, dd_lnB, dd_dvB, dd_icB, dd_f4B, dd_f5B, dd_f6B, enum_map]
    · have hv : R[p.2]? = some p.1 := by
        have := List.mem_zipIdx_iff_getElem?.mp hp
        simpa using this
      have e := is_sure_eq (rs := .tup ((R.take p.2 ++ R.drop (p.2 + 1)).map D.str)) (.inr rfl) (cutR_row hB.r) hB.l8 (Nat.le_trans cutR_len (by omega)) (hB.r p.1 (List.mem_of_getElem? hv)) S
      have ha : addD (.tup ((R.map D.str).take p.2)) (.tup ((R.map D.str).drop (p.2 + 1))) = some (.tup ((R.take p.2 ++ R.drop (p.2 + 1)).map D.str)) := by
        rw [add_tupT (by simp; omega), List.map_append, List.map_take, List.map_drop]
      simp only [EV0, EV1, EV2, EV3, EV4, EV5, EV6, EV7, EV8, EV9, EV10, EV11, EV12, EV13, EV14, EV15, EV16, Option.bind_some, Option.bind_none, Option.map_some, Option.map_none, List.getElem?_cons_zero, List.getElem?_cons_succ, List.set_cons_zero, List.set_cons_succ, List.map_cons, List.map_nil, List.length_cons, List.length_nil, List.cons_append, List.nil_append, Bool.and_true, Bool.true_and, Bool.and_false, Bool.false_and, List.all_cons, List.all_nil, List.replicate, Bool.not_true, Bool.not_false, Bool.false_eq_true, if_true, if_false, ↓reduceIte, decide_true, decide_false, Nat.zero_add, Nat.reduceAdd, Nat.reduceSub, dd_lnbor, dd_lnown, dd_lnbrw, dd_plT, dd_rdT, dd_lnT, dd_dvT, dd_itT, dd_isT, dd_tyT, dd_lenT, dd_esT, dd_tpT, dd_lsT, dd_plB, dd_rdB, dd_lnB, dd_dvB, dd_icB, dd_f4B, dd_f5B, dd_f6B, sl_tup_to, sl_tup_from, ha, e]
  unfold m_needless ir_needless
  simp only [EV0, EV1, EV2, EV3, EV4, EV5, EV6, EV7, EV8, EV9, EV10, EV11, EV12, EV13, EV14, EV15, EV16, Option.bind_some, Option.bind_none, Option.map_some, Option.map_none, List.getElem?_cons_zero, List.getElem?_cons_succ, List.set_cons_zero, List.set_cons_succ, List.map_cons, List.map_nil, List.length_cons, List.length_nil, List.cons_append, List.nil_append, Bool.and_true, Bool.true_and, Bool.and_false, Bool.false_and, List.all_cons, List.all_nil, List.replicate, Bool.not_true, Bool.not_false, Bool.false_eq_true, if_true, if_false, ↓reduceIte, decide_true, decide_false, Nat.zero_add, Nat.reduceAdd, Nat.reduceSub, dd_lnbor, dd_lnown, dd_lnbrw, dd_plT, dd_rdT, dd_lnT, dd_dvT, dd_itT, dd_isT, dd_tyT, dd_lenT, dd_esT, dd_tpT, dd_lsT, dd_plB, dd_rdB, dd_lnB, dd_dvB, dd_icB, dd_f4B, dd_f5B, dd_f6B, check_book_eq, List.length_map, hc]
  rfl
/-! ### alike -/
theorem eqBL_map {α : Type} [DecidableEq α] {f : α → D} (h : ∀ a b, eqB (f a) (f b) = decide (a = b)) : ∀ l l' : List α, eqBL (l.map f) (l'.map f) = decide (l = l')
  | [], [] => by simp [eqBL]
  | [], b :: l' => by simp [eqBL]
  | a :: l, [] => by simp [eqBL]
  | a :: l, b :: l' => by
    simp only [List.map_cons, eqBL, h, eqBL_map h l l', List.cons.injEq, Bool.decide_and]
theorem eqB_str (a b : List Nat) : eqB (.str a) (.str b) = decide (a = b) := by simp [eqB]
theorem eqB_nat (a b : Nat) : eqB (.int (a : Nat)) (.int (b : Nat)) = decide (a = b) := by
  simp only [eqB]
  rw [decide_eq_decide]
  omega
theorem eqB_enT (a b : List Nat) : eqB (enT a) (enT b) = decide (a = b) := by
  unfold enT enI
  simp only [eqB]
  exact eqBL_map eqB_nat a b
theorem eq_strsT {L L' : List (List Nat)} : eqD (.tup (L.map D.str)) (.tup (L'.map D.str)) = some (.bl (decide (L = L'))) := by
  have h1 : shp (.tup (L.map D.str)) = true := shp_t (dpts_str (fun r : List Nat => r) L)
  have h2 : shp (.tup (L'.map D.str)) = true := shp_t (dpts_str (fun r : List Nat => r) L')
  unfold eqD
  simp only [h1, h2, Bool.and_self, if_true, eqB, eqBL_map eqB_str]
theorem eq_strsL {L L' : List (List Nat)} : eqD (.lst (L.map D.str)) (.lst (L'.map D.str)) = some (.bl (decide (L = L'))) := by
  have h1 : shp (.lst (L.map D.str)) = true := shp_l (dpts_str (fun r : List Nat => r) L)
  have h2 : shp (.lst (L'.map D.str)) = true := shp_l (dpts_str (fun r : List Nat => r) L')
  unfold eqD
  simp only [h1, h2, Bool.and_self, if_true, eqB, eqBL_map eqB_str]
theorem eq_enTs {F F' : List (List Nat)} : eqD (.lst (F.map enT)) (.lst (F'.map enT)) = some (.bl (decide (F = F'))) := by
  have h1 : shp (.lst (F.map enT)) = true := shp_l (shps_enT (n := 30) F)
  have h2 : shp (.lst (F'.map enT)) = true := shp_l (shps_enT (n := 30) F')
  unfold eqD
  simp only [h1, h2, Bool.and_self, if_true, eqB, eqBL_map eqB_enT]
theorem ne_strsT {L L' : List (List Nat)} : neD (.tup (L.map D.str)) (.tup (L'.map D.str)) = some (.bl (!decide (L = L'))) := by
  unfold neD; rw [eq_strsT]; rfl
theorem alike_fit {R R' : List (List Nat)} {m : Nat} : (R'.all (sureB R m) && R.all (sureB R' m)) = decide (fit R m = fit R' m) := by
  by_cases h : fit R m = fit R' m
  · rw [decide_eq_true h, Bool.and_eq_true, List.all_eq_true, List.all_eq_true]
    have hm : ∀ o ∈ perms m, ((R.all fun r => hold r o) = true ↔ (R'.all fun r => hold r o) = true) := fun o ho => by
      have : o ∈ fit R m ↔ o ∈ fit R' m := by rw [h]
      unfold fit at this
      rw [List.mem_filter, List.mem_filter] at this
      exact ⟨fun g => (this.mp ⟨ho, g⟩).2, fun g => (this.mpr ⟨ho, g⟩).2⟩
    refine ⟨fun r hr => sure_iff.mpr fun o ho hh => ?_, fun r hr => sure_iff.mpr fun o ho hh => ?_⟩
    · exact List.all_eq_true.mp ((hm o ho).mp (List.all_eq_true.mpr hh)) r hr
    · exact List.all_eq_true.mp ((hm o ho).mpr (List.all_eq_true.mpr hh)) r hr
  · rw [decide_eq_false h]
    cases hx : (R'.all (sureB R m) && R.all (sureB R' m)) with
    | false => rfl
    | true =>
      rw [Bool.and_eq_true, List.all_eq_true, List.all_eq_true] at hx
      refine absurd (List.filter_congr fun o ho => ?_) h
      show (R.all fun r => hold r o) = (R'.all fun r => hold r o)
      have i1 : (R.all fun r => hold r o) = true → (R'.all fun r => hold r o) = true := fun g => List.all_eq_true.mpr fun r hr => sure_iff.mp (hx.1 r hr) o ho (List.all_eq_true.mp g)
      have i2 : (R'.all fun r => hold r o) = true → (R.all fun r => hold r o) = true := fun g => List.all_eq_true.mpr fun r hr => sure_iff.mp (hx.2 r hr) o ho (List.all_eq_true.mp g)
      cases h1 : (R.all fun r => hold r o) <;> cases h2 : (R'.all fun r => hold r o) <;> simp_all
theorem are_alike_eq {L R L' R' : List (List Nat)} (hB : Bk L R) (hB' : Bk L' R') (S : Store) : m_are_alike [bookD L R, bookD L' R'] S = some (.bl (decide (L = L') && decide (fit R L.length = fit R' L.length)), S) := by
  have r20 := hB.r20
  have r20' := hB'.r20
  unfold m_are_alike ir_are_alike
  by_cases hL : L = L'
  · subst hL
    rw [← alike_fit]
    have hc1 : evF are_alike_c1 ([some (.imm (bookD L R)), some (.imm (bookD L R')), some (.imm (.int (L.length : Nat))), none], S) = some (R'.map (fun r => D.bl (sureB R L.length r)), ([some (.imm (bookD L R)), some (.imm (bookD L R')), some (.imm (.int (L.length : Nat))), none], S)) := by
      unfold are_alike_c1
      refine comp_map R' D.str _ rfl rfl (by omega) fun r hr => ⟨?_, rfl⟩
      have e := is_sure_eq (rs := .tup (R.map D.str)) (.inr rfl) hB.r hB.l8 (by omega) (hB'.r r hr) S
      simp only [EV0, EV1, EV2, EV3, EV4, EV5, EV6, EV7, EV8, EV9, EV10, EV11, EV12, EV13, EV14, EV15, EV16, Option.bind_some, Option.bind_none, Option.map_some, Option.map_none, List.getElem?_cons_zero, List.getElem?_cons_succ, List.set_cons_zero, List.set_cons_succ, List.map_cons, List.map_nil, List.length_cons, List.length_nil, List.cons_append, List.nil_append, Bool.and_true, Bool.true_and, Bool.and_false, Bool.false_and, List.all_cons, List.all_nil, List.replicate, Bool.not_true, Bool.not_false, Bool.false_eq_true, if_true, if_false, ↓reduceIte, decide_true, decide_false, Nat.zero_add, Nat.reduceAdd, Nat.reduceSub, dd_lnbor, dd_lnown, dd_lnbrw, dd_plT, dd_rdT, dd_lnT, dd_dvT, dd_itT, dd_isT, dd_tyT, dd_lenT, dd_esT, dd_tpT, dd_lsT, dd_plB, dd_rdB, dd_lnB, dd_dvB, dd_icB, dd_f4B, dd_f5B, dd_f6B, e]
    have hc0 : evF are_alike_c0 ([some (.imm (bookD L R)), some (.imm (bookD L R')), some (.imm (.int (L.length : Nat))), none], S) = some (R.map (fun r => D.bl (sureB R' L.length r)), ([some (.imm (bookD L R)), some (.imm (bookD L R')), some (.imm (.int (L.length : Nat))), none], S)) := by
      unfold are_alike_c0
      refine comp_map R D.str _ rfl rfl (by omega) fun r hr => ⟨?_, rfl⟩
      have e := is_sure_eq (rs := .tup (R'.map D.str)) (.inr rfl) hB'.r hB.l8 (by omega) (hB.r r hr) S
      simp only [EV0, EV1, EV2, EV3, EV4, EV5, EV6, EV7, EV8, EV9, EV10, EV11, EV12, EV13, EV14, EV15, EV16, Option.bind_some, Option.bind_none, Option.map_some, Option.map_none, List.getElem?_cons_zero, List.getElem?_cons_succ, List.set_cons_zero, List.set_cons_succ, List.map_cons, List.map_nil, List.length_cons, List.length_nil, List.cons_append, List.nil_append, Bool.and_true, Bool.true_and, Bool.and_false, Bool.false_and, List.all_cons, List.all_nil, List.replicate, Bool.not_true, Bool.not_false, Bool.false_eq_true, if_true, if_false, ↓reduceIte, decide_true, decide_false, Nat.zero_add, Nat.reduceAdd, Nat.reduceSub, dd_lnbor, dd_lnown, dd_lnbrw, dd_plT, dd_rdT, dd_lnT, dd_dvT, dd_itT, dd_isT, dd_tyT, dd_lenT, dd_esT, dd_tpT, dd_lsT, dd_plB, dd_rdB, dd_lnB, dd_dvB, dd_icB, dd_f4B, dd_f5B, dd_f6B, e]
    cases h1 : R'.all (sureB R L.length) with
    | true => simp only [EV0, EV1, EV2, EV3, EV4, EV5, EV6, EV7, EV8, EV9, EV10, EV11, EV12, EV13, EV14, EV15, EV16, Option.bind_some, Option.bind_none, Option.map_some, Option.map_none, List.getElem?_cons_zero, List.getElem?_cons_succ, List.set_cons_zero, List.set_cons_succ, List.map_cons, List.map_nil, List.length_cons, List.length_nil, List.cons_append, List.nil_append, Bool.and_true, Bool.true_and, Bool.and_false, Bool.false_and, List.all_cons, List.all_nil, List.replicate, Bool.not_true, Bool.not_false, Bool.false_eq_true, if_true, if_false, ↓reduceIte, decide_true, decide_false, Nat.zero_add, Nat.reduceAdd, Nat.reduceSub, dd_lnbor, dd_lnown, dd_lnbrw, dd_plT, dd_rdT, dd_lnT, dd_dvT, dd_itT, dd_isT, dd_tyT, dd_lenT, dd_esT, dd_tpT, dd_lsT, dd_plB, dd_rdB, dd_lnB, dd_dvB, dd_icB, dd_f4B, dd_f5B, dd_f6B, List.length_map, ne_strsT, hc1, allD_f, h1, hc0]
    | false => simp only [EV0, EV1, EV2, EV3, EV4, EV5, EV6, EV7, EV8, EV9, EV10, EV11, EV12, EV13, EV14, EV15, EV16, Option.bind_some, Option.bind_none, Option.map_some, Option.map_none, List.getElem?_cons_zero, List.getElem?_cons_succ, List.set_cons_zero, List.set_cons_succ, List.map_cons, List.map_nil, List.length_cons, List.length_nil, List.cons_append, List.nil_append, Bool.and_true, Bool.true_and, Bool.and_false, Bool.false_and, List.all_cons, List.all_nil, List.replicate, Bool.not_true, Bool.not_false, Bool.false_eq_true, if_true, if_false, ↓reduceIte, decide_true, decide_false, Nat.zero_add, Nat.reduceAdd, Nat.reduceSub, dd_lnbor, dd_lnown, dd_lnbrw, dd_plT, dd_rdT, dd_lnT, dd_dvT, dd_itT, dd_isT, dd_tyT, dd_lenT, dd_esT, dd_tpT, dd_lsT, dd_plB, dd_rdB, dd_lnB, dd_dvB, dd_icB, dd_f4B, dd_f5B, dd_f6B, List.length_map, ne_strsT, hc1, allD_f, h1]
  · simp only [EV0, EV1, EV2, EV3, EV4, EV5, EV6, EV7, EV8, EV9, EV10, EV11, EV12, EV13, EV14, EV15, EV16, Option.bind_some, Option.bind_none, Option.map_some, Option.map_none, List.getElem?_cons_zero, List.getElem?_cons_succ, List.set_cons_zero, List.set_cons_succ, List.map_cons, List.map_nil, List.length_cons, List.length_nil, List.cons_append, List.nil_append, Bool.and_true, Bool.true_and, Bool.and_false, Bool.false_and, List.all_cons, List.all_nil, List.replicate, Bool.not_true, Bool.not_false, Bool.false_eq_true, if_true, if_false, ↓reduceIte, decide_true, decide_false, Nat.zero_add, Nat.reduceAdd, Nat.reduceSub, dd_lnbor, dd_lnown, dd_lnbrw, dd_plT, dd_rdT, dd_lnT, dd_dvT, dd_itT, dd_isT, dd_tyT, dd_lenT, dd_esT, dd_tpT, dd_lsT, dd_plB, dd_rdB, dd_lnB, dd_dvB, dd_icB, dd_f4B, dd_f5B, dd_f6B, List.length_map, ne_strsT, hL]
theorem alike_eq {L R L' R' : List (List Nat)} (hB : Bk L R) (hB' : Bk L' R') (S : Store) : m_alike [bookD L R, bookD L' R'] S = some (.bl (decide (L = L') && decide (fit R L.length = fit R' L.length)), S) := by
  have e := are_alike_eq hB hB' S
  unfold m_alike ir_alike
  simp only [EV0, EV1, EV2, EV3, EV4, EV5, EV6, EV7, EV8, EV9, EV10, EV11, EV12, EV13, EV14, EV15, EV16, Option.bind_some, Option.bind_none, Option.map_some, Option.map_none, List.getElem?_cons_zero, List.getElem?_cons_succ, List.set_cons_zero, List.set_cons_succ, List.map_cons, List.map_nil, List.length_cons, List.length_nil, List.cons_append, List.nil_append, Bool.and_true, Bool.true_and, Bool.and_false, Bool.false_and, List.all_cons, List.all_nil, List.replicate, Bool.not_true, Bool.not_false, Bool.false_eq_true, if_true, if_false, ↓reduceIte, decide_true, decide_false, Nat.zero_add, Nat.reduceAdd, Nat.reduceSub, dd_lnbor, dd_lnown, dd_lnbrw, dd_plT, dd_rdT, dd_lnT, dd_dvT, dd_itT, dd_isT, dd_tyT, dd_lenT, dd_esT, dd_tpT, dd_lsT, dd_plB, dd_rdB, dd_lnB, dd_dvB, dd_icB, dd_f4B, dd_f5B, dd_f6B, check_book_eq, e]
end KK
set_option Elab.async false
set_option linter.all false
set_option maxRecDepth 100000
set_option maxHeartbeats 1000000
/-! L15: the law k15 -/
namespace KK
open PySem DE
theorem kStpX {fa fb : Ev} {z : Z} : semStp [fa, fb] z = (fa z).bind fun x => (fb x.2).bind fun y => stpB y.2 x.1 y.1 := rfl
/-! ### the law's own needless -/
def ndlN (R : List (List Nat)) (m n : Nat) : List Nat := (List.range n).filter fun k => sureB (R.take k ++ R.drop (k + 1)) m (R.getD k [])
theorem ndlN_succ (R : List (List Nat)) (m n : Nat) : ndlN R m (n + 1) = ndlN R m n ++ (if sureB (R.take n ++ R.drop (n + 1)) m (R.getD n []) = true then [n] else []) := by
  unfold ndlN
  rw [List.range_succ, List.filter_append, List.filter_cons, List.filter_nil]
theorem law_needless_eq {R : List (List Nat)} {m : Nat} (hR : ∀ r ∈ R, Row m r) (hm : m ≤ 8) (hl : R.length ≤ 1000) (S : Store) : m_law_needless [.lst (R.map D.str), .int (m : Nat)] S = some (enT (ndl R m), S) := by
  have hpl := perms_len hm
  obtain ⟨z', e, o3, o4, rfl⟩ := for_acc (g := .nm 3) (b := law_needless_b0) (List.range R.length) (fun k => D.int (k : Nat)) (fun n z => ∃ o3 o4 : Option DV, z = ([some (.imm (.lst (R.map D.str))), some (.imm (.int (m : Nat))), some (.own (enI (ndlN R m n))), o3, o4, none], S)) (z := ([some (.imm (.lst (R.map D.str))), some (.imm (.int (m : Nat))), some (.own []), none, none, none], S)) ⟨none, none, rfl⟩ (fun n a z hk hz => by
    obtain ⟨o3, o4, rfl⟩ := hz
    have hk1 : n < R.length := by
      have := (List.getElem?_eq_some_iff.mp hk).1
      simpa using this
    have ha : a = n := by
      rw [List.getElem?_range hk1] at hk
      cases hk; rfl
    subst ha
    have hrow := hR _ (getR hk1)
    have e1 := fitting1_eq (R.take a ++ R.drop (a + 1)) m S hm fun r h => (cutR_row hR r h).1
    have hadd : addD (.lst ((R.map D.str).take a)) (.lst ((R.map D.str).drop (a + 1))) = some (.lst ((R.take a ++ R.drop (a + 1)).map D.str)) := by
      rw [add_lst (by simp; omega), List.map_append, List.map_take, List.map_drop]
    have hF : (fit (R.take a ++ R.drop (a + 1)) m).length ≤ 16777216 := Nat.le_trans (List.length_filter_le _ _) hpl
    have hc : evF law_needless_c0 ([some (.imm (.lst (R.map D.str))), some (.imm (.int (m : Nat))), some (.own (enI (ndlN R m a))), some (.imm (.int (a : Nat))), some (.imm (.lst ((fit (R.take a ++ R.drop (a + 1)) m).map enT))), none], S) = some (((fit (R.take a ++ R.drop (a + 1)) m).filter fun o => !hold (R.getD a []) o).map enT, ([some (.imm (.lst (R.map D.str))), some (.imm (.int (m : Nat))), some (.own (enI (ndlN R m a))), some (.imm (.int (a : Nat))), some (.imm (.lst ((fit (R.take a ++ R.drop (a + 1)) m).map enT))), none], S)) := by
      unfold law_needless_c0
      refine comp_nm (fit (R.take a ++ R.drop (a + 1)) m) enT _ _ rfl rfl hF fun o ho => ⟨?_, fun _ => ⟨rfl, rfl⟩⟩
      have hq := mem_perms.mp (List.mem_filter.mp ho).1
      have e := holds_tup (R.getD a []) o S (fun k hk => by rw [hrow.1]; exact hq.2.2 k hk) (by omega)
      simp only [EV0, EV1, EV2, EV3, EV4, EV5, EV6, EV7, EV8, EV9, EV10, EV11, EV12, EV13, EV14, EV15, EV16, Option.bind_some, Option.bind_none, Option.map_some, Option.map_none, List.getElem?_cons_zero, List.getElem?_cons_succ, List.set_cons_zero, List.set_cons_succ, List.map_cons, List.map_nil, List.length_cons, List.length_nil, List.cons_append, List.nil_append, Bool.and_true, Bool.true_and, Bool.and_false, Bool.false_and, List.all_cons, List.all_nil, List.replicate, Bool.not_true, Bool.not_false, Bool.false_eq_true, if_true, if_false, ↓reduceIte, decide_true, decide_false, Nat.zero_add, Nat.reduceAdd, Nat.reduceSub, dd_lnbor, dd_lnown, dd_lnbrw, dd_plT, dd_rdT, dd_lnT, dd_dvT, dd_itT, dd_isT, dd_tyT, dd_lenT, dd_esT, dd_tpT, dd_lsT, dd_plB, dd_rdB, dd_lnB, dd_dvB, dd_icB, dd_f4B, dd_f5B, dd_f6B, (show SqD (.lst (R.map D.str)) R from .inl rfl).ix hk1, show m_law_holds [.str (R.getD a []), enT o] S = some (.bl (hold (R.getD a []) o), S) from e]
    have h2 := eq_nil (shps_enT (n := 30) ((fit (R.take a ++ R.drop (a + 1)) m).filter fun o => !hold (R.getD a []) o))
    have h3 : (((fit (R.take a ++ R.drop (a + 1)) m).filter fun o => !hold (R.getD a []) o).map enT).isEmpty = sureB (R.take a ++ R.drop (a + 1)) m (R.getD a []) := filtA enT _
    rw [h3] at h2
    have hlen : (ndlN R m a).length < 16777216 := by
      have : (ndlN R m a).length ≤ a := by unfold ndlN; exact Nat.le_trans (List.length_filter_le _ _) (by simp)
      omega
    have hb := blt_of hlen
    have hap : enI (ndlN R m a) ++ [D.int (a : Nat)] = enI (ndlN R m a ++ [a]) := by simp [enI]
    refine ⟨_, ([some (.imm (.lst (R.map D.str))), some (.imm (.int (m : Nat))), some (.own (enI (ndlN R m (a + 1)))), some (.imm (.int (a : Nat))), some (.imm (.lst ((fit (R.take a ++ R.drop (a + 1)) m).map enT))), none], S), rfl, .inl ?_, _, _, rfl⟩
    rw [ndlN_succ]
    unfold law_needless_b0
    cases hs : sureB (R.take a ++ R.drop (a + 1)) m (R.getD a []) with
    | true =>
      rw [hs] at h2
      simp only [EV0, EV1, EV2, EV3, EV4, EV5, EV6, EV7, EV8, EV9, EV10, EV11, EV12, EV13, EV14, EV15, EV16, Option.bind_some, Option.bind_none, Option.map_some, Option.map_none, List.getElem?_cons_zero, List.getElem?_cons_succ, List.set_cons_zero, List.set_cons_succ, List.map_cons, List.map_nil, List.length_cons, List.length_nil, List.cons_append, List.nil_append, Bool.and_true, Bool.true_and, Bool.and_false, Bool.false_and, List.all_cons, List.all_nil, List.replicate, Bool.not_true, Bool.not_false, Bool.false_eq_true, if_true, if_false, ↓reduceIte, decide_true, decide_false, Nat.zero_add, Nat.reduceAdd, Nat.reduceSub, dd_lnbor, dd_lnown, dd_lnbrw, dd_plT, dd_rdT, dd_lnT, dd_dvT, dd_itT, dd_isT, dd_tyT, dd_lenT, dd_esT, dd_tpT, dd_lsT, dd_plB, dd_rdB, dd_lnB, dd_dvB, dd_icB, dd_f4B, dd_f5B, dd_f6B, sl_lst_to, sl_lst_from, hadd, e1, hc, h2, enI_len, hb, hap]
    | false =>
      rw [hs] at h2
      simp only [EV0, EV1, EV2, EV3, EV4, EV5, EV6, EV7, EV8, EV9, EV10, EV11, EV12, EV13, EV14, EV15, EV16, Option.bind_some, Option.bind_none, Option.map_some, Option.map_none, List.getElem?_cons_zero, List.getElem?_cons_succ, List.set_cons_zero, List.set_cons_succ, List.map_cons, List.map_nil, List.length_cons, List.length_nil, List.cons_append, List.nil_append, Bool.and_true, Bool.true_and, Bool.and_false, Bool.false_and, List.all_cons, List.all_nil, List.replicate, Bool.not_true, Bool.not_false, Bool.false_eq_true, if_true, if_false, ↓reduceIte, decide_true, decide_false, Nat.zero_add, Nat.reduceAdd, Nat.reduceSub, dd_lnbor, dd_lnown, dd_lnbrw, dd_plT, dd_rdT, dd_lnT, dd_dvT, dd_itT, dd_isT, dd_tyT, dd_lenT, dd_esT, dd_tpT, dd_lsT, dd_plB, dd_rdB, dd_lnB, dd_dvB, dd_icB, dd_f4B, dd_f5B, dd_f6B, sl_lst_to, sl_lst_from, hadd, e1, hc, h2, List.append_nil])
  rw [List.length_range] at e
  unfold m_law_needless ir_law_needless
  simp only [EV0, EV1, EV2, EV3, EV4, EV5, EV6, EV7, EV8, EV9, EV10, EV11, EV12, EV13, EV14, EV15, EV16, Option.bind_some, Option.bind_none, Option.map_some, Option.map_none, List.getElem?_cons_zero, List.getElem?_cons_succ, List.set_cons_zero, List.set_cons_succ, List.map_cons, List.map_nil, List.length_cons, List.length_nil, List.cons_append, List.nil_append, Bool.and_true, Bool.true_and, Bool.and_false, Bool.false_and, List.all_cons, List.all_nil, List.replicate, Bool.not_true, Bool.not_false, Bool.false_eq_true, if_true, if_false, ↓reduceIte, decide_true, decide_false, Nat.zero_add, Nat.reduceAdd, Nat.reduceSub, dd_lnbor, dd_lnown, dd_lnbrw, dd_plT, dd_rdT, dd_lnT, dd_dvT, dd_itT, dd_isT, dd_tyT, dd_lenT, dd_esT, dd_tpT, dd_lsT, dd_plB, dd_rdB, dd_lnB, dd_dvB, dd_icB, dd_f4B, dd_f5B, dd_f6B, List.length_map, bigOk_of (show -1000000000 ≤ ((R.length : Nat) : Int) by omega) (show ((R.length : Nat) : Int) ≤ 1000000000 by omega), show rngL 0 ((R.length : Nat) : Int).toNat = (List.range R.length).map fun k => D.int (k : Nat) by rw [Int.toNat_natCast, rng_map], e]
  rfl
/-! ### pairs of names and rows -/
abbrev NR := List (List Nat) × List (List Nat)
def prD (q : NR) : D := .tup [.lst (q.1.map D.str), .lst (q.2.map D.str)]
def bkD (q : NR) : D := bookD q.1 q.2
def ftD (m : Nat) (q : NR) : D := .lst ((fit q.2 m).map enT)
structure Prs (m : Nat) (P : List NR) : Prop where
  b : ∀ q ∈ P, Bk q.1 q.2
  l : ∀ q ∈ P, q.1.length = m
  n : P.length ≤ 100
abbrev r15 (p : Store) (m : Nat) (P : List NR) (o5 o6 o7 o8 o9 o10 o11 o12 : Option DV) : Rho := [some (.imm (.han p.length)), some (.imm (.int (m : Nat))), some (.imm (.lst (P.map prD))), some (.imm (.lst (P.map bkD))), some (.imm (.lst (P.map (ftD m)))), o5, o6, o7, o8, o9, o10, o11, o12, none, none]
theorem ix_map {α : Type} {f : α → D} {l : List α} {k : Nat} {a : α} (h : l[k]? = some a) : ixD (.lst (l.map f)) (.int (k : Nat)) = some (f a) := by
  have hk := (List.getElem?_eq_some_iff.mp h).1
  have he := (List.getElem?_eq_some_iff.mp h).2
  rw [ix_lst (l := l.map f) (by rw [List.length_map]; exact hk), List.getElem_map, he]
theorem dd15_pr0 {q : NR} : ixD (prD q) (.int 0) = some (.lst (q.1.map D.str)) := rfl
theorem dd15_pr1 {q : NR} : ixD (prD q) (.int 1) = some (.lst (q.2.map D.str)) := rfl
theorem dd15_rd {z : Z} {q : NR} : rd z (prD q) = some (prD q) := rfl
theorem b0_15 {m : Nat} {P : List NR} (hP : Prs m P) (p S : Store) {k j : Nat} {a b : NR} (ha : P[k]? = some a) (hb : P[j]? = some b) (o5 o6 o7 o10 : Option DV) : ∃ o10', evSs law_right_v14_b0 (r15 p m P o5 o6 o7 (some (.imm (.int (k : Nat)))) (some (.imm (bkD a))) o10 (some (.imm (.int (j : Nat)))) (some (.imm (bkD b))), S) = some (.nx, (r15 p m P o5 o6 o7 (some (.imm (.int (k : Nat)))) (some (.imm (bkD a))) o10' (some (.imm (.int (j : Nat)))) (some (.imm (bkD b))), S)) := by
  have ma := List.mem_of_getElem? ha
  have mb := List.mem_of_getElem? hb
  have e1 := alike_eq (hP.b a ma) (hP.b b mb) S
  rw [hP.l a ma] at e1
  have x1 := ix_map (f := prD) ha
  have x2 := ix_map (f := prD) hb
  have y1 := ix_map (f := ftD m) ha
  have y2 := ix_map (f := ftD m) hb
  have hr : ∀ x : Bool, reprD (.lst [.bl x, .bl x]) = some (.str (shownL (.lst [.bl x, .bl x]))) := fun _ => rfl
  have rdf : ∀ (z : Z) (q : NR), rd z (ftD m q) = some (ftD m q) := fun _ _ => rfl
  have eqf : eqD (ftD m a) (ftD m b) = some (.bl (decide (fit a.2 m = fit b.2 m))) := eq_enTs
  refine ⟨some (.imm (.bl (decide (a.1 = b.1) && decide (fit a.2 m = fit b.2 m)))), ?_⟩
  unfold r15 law_right_v14_b0
  unfold bkD at *
  cases h1 : decide (a.1 = b.1) with
  | true =>
    rw [h1] at e1
    simp only [EV0, EV1, EV2, EV3, EV4, EV5, EV6, EV7, EV8, EV9, EV10, EV11, EV12, EV13, EV14, EV15, EV16, Option.bind_some, Option.bind_none, Option.map_some, Option.map_none, List.getElem?_cons_zero, List.getElem?_cons_succ, List.set_cons_zero, List.set_cons_succ, List.map_cons, List.map_nil, List.length_cons, List.length_nil, List.cons_append, List.nil_append, Bool.and_true, Bool.true_and, Bool.and_false, Bool.false_and, List.all_cons, List.all_nil, List.replicate, Bool.not_true, Bool.not_false, Bool.false_eq_true, if_true, if_false, ↓reduceIte, decide_true, decide_false, Nat.zero_add, Nat.reduceAdd, Nat.reduceSub, dd_lnbor, dd_lnown, dd_lnbrw, dd_plT, dd_rdT, dd_lnT, dd_dvT, dd_itT, dd_isT, dd_tyT, dd_lenT, dd_esT, dd_tpT, dd_lsT, dd_plB, dd_rdB, dd_lnB, dd_dvB, dd_icB, dd_f4B, dd_f5B, dd_f6B, x1, x2, y1, y2, dd15_rd, dd15_pr0, eq_strsL, h1, rdf, eqf, e1, hr]
  | false =>
    rw [h1] at e1
    simp only [EV0, EV1, EV2, EV3, EV4, EV5, EV6, EV7, EV8, EV9, EV10, EV11, EV12, EV13, EV14, EV15, EV16, Option.bind_some, Option.bind_none, Option.map_some, Option.map_none, List.getElem?_cons_zero, List.getElem?_cons_succ, List.set_cons_zero, List.set_cons_succ, List.map_cons, List.map_nil, List.length_cons, List.length_nil, List.cons_append, List.nil_append, Bool.and_true, Bool.true_and, Bool.and_false, Bool.false_and, List.all_cons, List.all_nil, List.replicate, Bool.not_true, Bool.not_false, Bool.false_eq_true, if_true, if_false, ↓reduceIte, decide_true, decide_false, Nat.zero_add, Nat.reduceAdd, Nat.reduceSub, dd_lnbor, dd_lnown, dd_lnbrw, dd_plT, dd_rdT, dd_lnT, dd_dvT, dd_itT, dd_isT, dd_tyT, dd_lenT, dd_esT, dd_tpT, dd_lsT, dd_plB, dd_rdB, dd_lnB, dd_dvB, dd_icB, dd_f4B, dd_f5B, dd_f6B, x1, x2, y1, y2, dd15_rd, dd15_pr0, eq_strsL, h1, rdf, eqf, e1, hr]
theorem b1_15 {m : Nat} {P : List NR} (hP : Prs m P) (hm : m ≤ 8) (p S : Store) {k : Nat} {a : NR} (ha : P[k]? = some a) (o5 o6 o7 o10 o11 o12 : Option DV) : ∃ o10' o11' o12', evSs law_right_v14_b1 (r15 p m P o5 o6 o7 (some (.imm (.int (k : Nat)))) (some (.imm (bkD a))) o10 o11 o12, S) = some (.nx, (r15 p m P o5 o6 o7 (some (.imm (.int (k : Nat)))) (some (.imm (bkD a))) o10' o11' o12', S)) := by
  have ma := List.mem_of_getElem? ha
  have hBa := hP.b a ma
  have e1 := needless_eq hBa S
  have r20 := hBa.r20
  have e2 := law_needless_eq (R := a.2) (m := m) (fun r h => by have := hBa.r r h; rwa [hP.l a ma] at this) hm (by omega) S
  rw [hP.l a ma] at e1
  have x1 := ix_map (f := prD) ha
  have g1 := ne_self (d := .lst [enT (ndl a.2 m), enT (ndl a.2 m)]) (by
    refine shp_l ?_
    simp only [List.all_cons, List.all_nil, Bool.and_true]
    have : dpt 31 (enT (ndl a.2 m)) = true := dpts_int (fun k : Nat => (k : Int)) _
    rw [this]; rfl)
  obtain ⟨z', e3, o10', o11', o12', rfl⟩ := for_acc (g := .tp (.cons (.nm 11) (.cons (.nm 12) .nil))) (b := law_right_v14_b0) P.zipIdx (fun q => D.tup [.int (q.2 : Nat), bkD q.1]) (fun n z => ∃ o10 o11 o12 : Option DV, z = (r15 p m P o5 o6 o7 (some (.imm (.int (k : Nat)))) (some (.imm (bkD a))) o10 o11 o12, S)) (z := (r15 p m P o5 o6 o7 (some (.imm (.int (k : Nat)))) (some (.imm (bkD a))) (some (.imm (enT (ndl a.2 m)))) o11 o12, S)) ⟨some (.imm (enT (ndl a.2 m))), o11, o12, rfl⟩ (fun n q z hk hz => by
    obtain ⟨o10, o11, o12, rfl⟩ := hz
    have hv : P[q.2]? = some q.1 := by
      have := List.mem_zipIdx_iff_getElem?.mp (List.mem_of_getElem? hk)
      simpa using this
    obtain ⟨o10', e⟩ := b0_15 hP p S ha hv o5 o6 o7 o10
    exact ⟨_, _, rfl, .inl e, _, _, _, rfl⟩)
  refine ⟨o10', o11', o12', ?_⟩
  have he : enumL (P.map bkD) = P.zipIdx.map fun q => D.tup [.int (q.2 : Nat), bkD q.1] := enum_map P
  rw [← he] at e3
  unfold r15 at e3 ⊢
  unfold law_right_v14_b1
  simp only [EV0, EV1, EV2, EV3, EV4, EV5, EV6, EV7, EV8, EV9, EV10, EV11, EV12, EV13, EV14, EV15, EV16, Option.bind_some, Option.bind_none, Option.map_some, Option.map_none, List.getElem?_cons_zero, List.getElem?_cons_succ, List.set_cons_zero, List.set_cons_succ, List.map_cons, List.map_nil, List.length_cons, List.length_nil, List.cons_append, List.nil_append, Bool.and_true, Bool.true_and, Bool.and_false, Bool.false_and, List.all_cons, List.all_nil, List.replicate, Bool.not_true, Bool.not_false, Bool.false_eq_true, if_true, if_false, ↓reduceIte, decide_true, decide_false, Nat.zero_add, Nat.reduceAdd, Nat.reduceSub, dd_lnbor, dd_lnown, dd_lnbrw, dd_plT, dd_rdT, dd_lnT, dd_dvT, dd_itT, dd_isT, dd_tyT, dd_lenT, dd_esT, dd_tpT, dd_lsT, dd_plB, dd_rdB, dd_lnB, dd_dvB, dd_icB, dd_f4B, dd_f5B, dd_f6B, x1, dd15_rd, dd15_pr1, e2, show ∀ z : Z, lendD z (bkD a) = some (bkD a) from fun _ => rfl, show m_needless [bkD a] S = some (enT (ndl a.2 m), S) from e1, g1, e3]
end KK
set_option Elab.async false
set_option linter.all false
set_option maxRecDepth 100000
set_option maxHeartbeats 1000000
/-! L15b: the law k15 -/
namespace KK
open PySem DE
def kSt2 (x : D) (y : D × Z) : Option (List D × Z) := stpB y.2 x y.1
def kSt1 (fb : Ev) (x : D × Z) : Option (List D × Z) := (fb x.2).bind (kSt2 x.1)
theorem X_st {fa fb : Ev} {z : Z} : semStp [fa, fb] z = (fa z).bind (kSt1 fb) := rfl
theorem rep_row {m c : Nat} (h : sgn c = true) : Row m (List.replicate m c) := ⟨by simp, by
  rw [List.all_eq_true]
  intro x hx
  rw [(List.mem_replicate.mp hx).2]
  exact h⟩
theorem mul_c {c n : Nat} (h : n ≤ 1000000) : mulD (.str [c]) (.int (n : Nat)) = some (.str (List.replicate n c)) := by
  simp only [mulD, show (-9223372036854775808 ≤ ((n : Nat) : Int) ∧ ((n : Nat) : Int) ≤ 16777216) = True by simp; omega, if_true, Int.toNat_natCast]
theorem sl_m1 {R : List (List Nat)} : slD (.lst (R.map D.str)) none (some (-1)) = some (.lst ((R.take (R.length - 1)).map D.str)) := by
  show some (D.lst (cutL (R.map D.str) none (some (-1)))) = _
  have h1 : HT.sIx (R.map D.str).length (R.map D.str).length (some (-1)) = R.length - 1 := by
    unfold HT.sIx
    simp
    omega
  unfold cutL
  rw [h1, show HT.sIx (R.map D.str).length 0 none = 0 from rfl, List.drop_zero, Nat.sub_zero, List.map_take]
theorem st_rev {z : Z} {R : List (List Nat)} : stpB z (.lst (R.map D.str)) (.int (-1)) = some (R.reverse.map D.str, z) := by
  show some ((R.map D.str).reverse, z) = _
  rw [List.map_reverse]
theorem add_strs {A B : List (List Nat)} (h : A.length + B.length ≤ 1000) : addD (.lst (A.map D.str)) (.lst (B.map D.str)) = some (.lst ((A ++ B).map D.str)) := by
  rw [add_lst (by simp; omega), List.map_append]
theorem add_prs {A B : List NR} (h : A.length + B.length ≤ 1000) : addD (.lst (A.map prD)) (.lst (B.map prD)) = some (.lst ((A ++ B).map prD)) := by
  rw [add_lst (by simp; omega), List.map_append]
theorem Bk.of {L R R' : List (List Nat)} (h : Bk L R) (hr : ∀ r ∈ R', Row L.length r) (hl : R'.length ≤ 20) : Bk L R' := ⟨h.n, h.l1, h.l8, hr, hl⟩
def P15 (L L2 R : List (List Nat)) (s : List Nat) (m : Nat) : List NR := [(L, R), (L, R.reverse), (L, R.take (R.length - 1))] ++ [(L, R ++ [List.replicate m 43])] ++ [(L, R ++ [s]), (L2, R)] ++ [(L, R ++ R.take 2), (L, [List.replicate m 45]), (L, R ++ [List.replicate m 45])]
theorem prs15 {L L2 R : List (List Nat)} {s : List Nat} (hB : Bk L R) (h5 : R.length ≤ 5) (hs : Row L.length s) (hN2 : Names L2) (h2 : L2.length = L.length) : Prs L.length (P15 L L2 R s L.length) := by
  have hb2 : Bk L2 R := ⟨hN2, by rw [h2]; exact hB.l1, by rw [h2]; exact hB.l8, fun r h => by rw [h2]; exact hB.r r h, hB.r20⟩
  have one : ∀ {x : List Nat}, Row L.length x → ∀ r ∈ R ++ [x], Row L.length r := fun hx r h => by
    rcases List.mem_append.mp h with h | h
    · exact hB.r r h
    · rw [List.mem_singleton.mp h]; exact hx
  refine ⟨fun q hq => ?_, fun q hq => ?_, by simp [P15]⟩
  · simp only [P15, List.cons_append, List.nil_append, List.mem_cons, List.not_mem_nil, or_false] at hq
    rcases hq with rfl | rfl | rfl | rfl | rfl | rfl | rfl | rfl | rfl
    · exact hB
    · exact hB.of (fun r h => hB.r r (List.mem_reverse.mp h)) (by simp; omega)
    · exact hB.of (fun r h => hB.r r (List.take_subset _ _ h)) (by simp; omega)
    · exact hB.of (one (rep_row rfl)) (by simp; omega)
    · exact hB.of (one hs) (by simp; omega)
    · exact hb2
    · exact hB.of (fun r h => by
        rcases List.mem_append.mp h with h | h
        · exact hB.r r h
        · exact hB.r r (List.take_subset _ _ h)) (by simp; omega)
    · exact hB.of (fun r h => by rw [List.mem_singleton.mp h]; exact rep_row rfl) (by simp)
    · exact hB.of (one (rep_row rfl)) (by simp; omega)
  · simp only [P15, List.cons_append, List.nil_append, List.mem_cons, List.not_mem_nil, or_false] at hq
    rcases hq with rfl | rfl | rfl | rfl | rfl | rfl | rfl | rfl | rfl <;> first | rfl | exact h2
theorem bkA : Bk [[97]] [] := ⟨⟨by decide, by simp⟩, by simp, by simp, fun _ h => absurd h (by simp), by simp⟩
theorem bkAB {R : List (List Nat)} (h : ∀ r ∈ R, Row 2 r) (hl : R.length ≤ 20) : Bk [[97], [98]] R := ⟨⟨by decide, by decide⟩, by simp, by simp, h, hl⟩
theorem alike_diff {L R L' R' : List (List Nat)} (hB : Bk L R) (hB' : Bk L' R') (h : L ≠ L') (S : Store) : m_alike [bookD L R, bookD L' R'] S = some (.bl false, S) := by
  have := alike_eq hB hB' S
  rwa [decide_eq_false h, Bool.false_and] at this
theorem right15 (c : MO) (p : Store) (hS : Purse c) (hp : Cl p) : ∃ c', m_law_right_v14 [.han p.length] (p ++ [c]) = some (.bl true, p ++ [c']) ∧ Purse c' := by
  obtain ⟨L, R, c1, e1, hB, hl1, hl2, hR, hc1⟩ := law_book_eq hS p [] 1 4 5 (by omega) (by omega) (by omega) (by omega)
  have e1 : m_law_book [.han p.length, .int 1, .int 4, .int 5] (p ++ [c]) = some (.tup [.lst (L.map D.str), .lst (R.map D.str)], p ++ [c1]) := e1
  obtain ⟨s, c2, e2, hs, hc2⟩ := signs_eq hc1 p [] L.length (by omega)
  obtain ⟨L2, c3, e3, hL2, hN2, hc3⟩ := labels_eq hc2 p [] L.length (by omega)
  have hP := prs15 hB hR hs hN2 hL2
  have l8 := hB.l8
  have r20 := hB.r20
  have hCl := (hp.pc hc3).all (p ++ [c3]).length
  -- the list of pairs
  have hm := mul_c (c := 43) (n := L.length) (by omega)
  have hm2 := mul_c (c := 45) (n := L.length) (by omega)
  have a1 := add_strs (A := R) (B := [List.replicate L.length 43]) (by simp; omega)
  have a2 := add_strs (A := R) (B := [s]) (by simp; omega)
  have a3 := add_strs (A := R) (B := R.take 2) (by simp; omega)
  have a4 := add_strs (A := R) (B := [List.replicate L.length 45]) (by simp; omega)
  have sl2 : slD (.lst (R.map D.str)) none (some 2) = some (.lst ((R.take 2).map D.str)) := by
    rw [show (2 : Int) = ((2 : Nat) : Int) from rfl, sl_lst_to, List.map_take]
  have b1 := add_prs (A := [(L, R), (L, R.reverse), (L, R.take (R.length - 1))]) (B := [(L, R ++ [List.replicate L.length 43])]) (by simp)
  have b2 := add_prs (A := [(L, R), (L, R.reverse), (L, R.take (R.length - 1))] ++ [(L, R ++ [List.replicate L.length 43])]) (B := [(L, R ++ [s]), (L2, R)]) (by simp)
  have b3 := add_prs (A := [(L, R), (L, R.reverse), (L, R.take (R.length - 1))] ++ [(L, R ++ [List.replicate L.length 43])] ++ [(L, R ++ [s]), (L2, R)]) (B := [(L, R ++ R.take 2), (L, [List.replicate L.length 45]), (L, R ++ [List.replicate L.length 45])]) (by simp)
  have hn1 : negD (.int 1) = some (.int (-1)) := rfl
  -- books and orders
  have hc1' : ∀ o3 o4 : Option DV, evF law_right_v14_c1 ([some (.imm (.han p.length)), some (.imm (.int (L.length : Nat))), some (.imm (.lst ((P15 L L2 R s L.length).map prD))), o3, o4, none, some (.imm (.lst (L.map D.str))), some (.imm (.lst (R.map D.str))), none, none, none, none, none, none, none], p ++ [c3]) = some ((P15 L L2 R s L.length).map bkD, ([some (.imm (.han p.length)), some (.imm (.int (L.length : Nat))), some (.imm (.lst ((P15 L L2 R s L.length).map prD))), o3, o4, none, some (.imm (.lst (L.map D.str))), some (.imm (.lst (R.map D.str))), none, none, none, none, none, none, none], p ++ [c3])) := by
    intro o3 o4
    unfold law_right_v14_c1
    have := comp_two (it := .ex (.var 2)) (t := .no) (e := .ext (shCall "Book") (semMk 0 1 m_Book_init) (.cons (.call "_law_spelled" 2 m_law_spelled (.cons (.var 13) (.cons (.var 14) .nil))) .nil)) (x := "_law_names_here") (y := "_law_lines") (i := 13) (j := 14) (ρ := [some (.imm (.han p.length)), some (.imm (.int (L.length : Nat))), some (.imm (.lst ((P15 L L2 R s L.length).map prD))), o3, o4, none, some (.imm (.lst (L.map D.str))), some (.imm (.lst (R.map D.str))), none, none, none, none, none, none, none]) (S := p ++ [c3]) (P15 L L2 R s L.length) (fun q => D.lst (q.1.map D.str)) (fun q => D.lst (q.2.map D.str)) (fun _ => true) bkD rfl rfl (by omega) (by have := hP.n; omega) (fun q hq => ⟨rfl, fun _ => ⟨by
      have hb := hP.b q hq
      have e4 := spelled_eq hb (p ++ [c3])
      simp only [EV0, EV1, EV2, EV3, EV4, EV5, EV6, EV7, EV8, EV9, EV10, EV11, EV12, EV13, EV14, EV15, EV16, Option.bind_some, Option.bind_none, Option.map_some, Option.map_none, List.getElem?_cons_zero, List.getElem?_cons_succ, List.set_cons_zero, List.set_cons_succ, List.map_cons, List.map_nil, List.length_cons, List.length_nil, List.cons_append, List.nil_append, Bool.and_true, Bool.true_and, Bool.and_false, Bool.false_and, List.all_cons, List.all_nil, List.replicate, Bool.not_true, Bool.not_false, Bool.false_eq_true, if_true, if_false, ↓reduceIte, decide_true, decide_false, Nat.zero_add, Nat.reduceAdd, Nat.reduceSub, dd_lnbor, dd_lnown, dd_lnbrw, dd_plT, dd_rdT, dd_lnT, dd_dvT, dd_itT, dd_isT, dd_tyT, dd_lenT, dd_esT, dd_tpT, dd_lsT, dd_plB, dd_rdB, dd_lnB, dd_dvB, dd_icB, dd_f4B, dd_f5B, dd_f6B, e4, mk_book hb _ (p ++ [c3]) hCl]
      rfl, rfl⟩⟩)
    rwa [List.filter_eq_self.mpr (fun _ _ => rfl)] at this
  have hc0' : ∀ o4 : Option DV, evF law_right_v14_c0 ([some (.imm (.han p.length)), some (.imm (.int (L.length : Nat))), some (.imm (.lst ((P15 L L2 R s L.length).map prD))), some (.imm (.lst ((P15 L L2 R s L.length).map bkD))), o4, none, some (.imm (.lst (L.map D.str))), some (.imm (.lst (R.map D.str))), none, none, none, none, none, none, none], p ++ [c3]) = some ((P15 L L2 R s L.length).map (ftD L.length), ([some (.imm (.han p.length)), some (.imm (.int (L.length : Nat))), some (.imm (.lst ((P15 L L2 R s L.length).map prD))), some (.imm (.lst ((P15 L L2 R s L.length).map bkD))), o4, none, some (.imm (.lst (L.map D.str))), some (.imm (.lst (R.map D.str))), none, none, none, none, none, none, none], p ++ [c3])) := by
    intro o4
    unfold law_right_v14_c0
    have := comp_two (it := .ex (.var 2)) (t := .no) (e := .call "_law_fitting" 2 m_law_fitting_v1 (.cons (.var 14) (.cons (.var 1) .nil))) (x := "_law_names_here") (y := "_law_lines") (i := 13) (j := 14) (ρ := [some (.imm (.han p.length)), some (.imm (.int (L.length : Nat))), some (.imm (.lst ((P15 L L2 R s L.length).map prD))), some (.imm (.lst ((P15 L L2 R s L.length).map bkD))), o4, none, some (.imm (.lst (L.map D.str))), some (.imm (.lst (R.map D.str))), none, none, none, none, none, none, none]) (S := p ++ [c3]) (P15 L L2 R s L.length) (fun q => D.lst (q.1.map D.str)) (fun q => D.lst (q.2.map D.str)) (fun _ => true) (ftD L.length) rfl rfl (by omega) (by have := hP.n; omega) (fun q hq => ⟨rfl, fun _ => ⟨by
      have hb := hP.b q hq
      have e4 := fitting1_eq q.2 L.length (p ++ [c3]) l8 fun r h => by rw [(hb.r r h).1, hP.l q hq]
      simp only [EV0, EV1, EV2, EV3, EV4, EV5, EV6, EV7, EV8, EV9, EV10, EV11, EV12, EV13, EV14, EV15, EV16, Option.bind_some, Option.bind_none, Option.map_some, Option.map_none, List.getElem?_cons_zero, List.getElem?_cons_succ, List.set_cons_zero, List.set_cons_succ, List.map_cons, List.map_nil, List.length_cons, List.length_nil, List.cons_append, List.nil_append, Bool.and_true, Bool.true_and, Bool.and_false, Bool.false_and, List.all_cons, List.all_nil, List.replicate, Bool.not_true, Bool.not_false, Bool.false_eq_true, if_true, if_false, ↓reduceIte, decide_true, decide_false, Nat.zero_add, Nat.reduceAdd, Nat.reduceSub, dd_lnbor, dd_lnown, dd_lnbrw, dd_plT, dd_rdT, dd_lnT, dd_dvT, dd_itT, dd_isT, dd_tyT, dd_lenT, dd_esT, dd_tpT, dd_lsT, dd_plB, dd_rdB, dd_lnB, dd_dvB, dd_icB, dd_f4B, dd_f5B, dd_f6B, e4]
      rfl, rfl⟩⟩)
    rwa [List.filter_eq_self.mpr (fun _ _ => rfl)] at this
  have he : enumL ((P15 L L2 R s L.length).map bkD) = (P15 L L2 R s L.length).zipIdx.map fun q => D.tup [.int (q.2 : Nat), bkD q.1] := enum_map _
  obtain ⟨z', e5, o8, o9, o10, o11, o12, rfl⟩ := for_acc (g := .tp (.cons (.nm 8) (.cons (.nm 9) .nil))) (b := law_right_v14_b1) (P15 L L2 R s L.length).zipIdx (fun q => D.tup [.int (q.2 : Nat), bkD q.1]) (fun n z => ∃ o8 o9 o10 o11 o12 : Option DV, z = (r15 p L.length (P15 L L2 R s L.length) none (some (.imm (.lst (L.map D.str)))) (some (.imm (.lst (R.map D.str)))) o8 o9 o10 o11 o12, p ++ [c3])) (z := (r15 p L.length (P15 L L2 R s L.length) none (some (.imm (.lst (L.map D.str)))) (some (.imm (.lst (R.map D.str)))) none none none none none, p ++ [c3])) ⟨none, none, none, none, none, rfl⟩ (fun n q z hk hz => by
    obtain ⟨o8, o9, o10, o11, o12, rfl⟩ := hz
    have hv : (P15 L L2 R s L.length)[q.2]? = some q.1 := by
      have := List.mem_zipIdx_iff_getElem?.mp (List.mem_of_getElem? hk)
      simpa using this
    obtain ⟨o10', o11', o12', e⟩ := b1_15 hP l8 p (p ++ [c3]) hv none (some (.imm (.lst (L.map D.str)))) (some (.imm (.lst (R.map D.str)))) o10 o11 o12
    exact ⟨_, _, rfl, .inl e, _, _, _, _, _, rfl⟩)
  rw [← he] at e5
  unfold r15 at e5
  -- the last books
  have t1 : ([97, 58] : List Nat) = text [[97]] [] := by decide
  have t2 : ([97, 32, 98, 58] : List Nat) = text [[97], [98]] [] := by decide
  have t3 : ([97, 32, 98, 58, 32, 43, 45] : List Nat) = text [[97], [98]] [[43, 45]] := by decide
  have k1 := bkA
  have k2 := bkAB (R := []) (fun _ h => absurd h (by simp)) (by simp)
  have k3 := bkAB (R := [[43, 45]]) (fun r h => by rw [List.mem_singleton.mp h]; exact ⟨rfl, rfl⟩) (by simp)
  have d1 := alike_diff k1 k2 (by decide) (p ++ [c3])
  have d2 := alike_diff k3 k1 (by decide) (p ++ [c3])
  have hBw : Bk L [] := hB.of (fun _ h => absurd h (by simp)) (by simp)
  have w1 := spelled_eq hBw (p ++ [c3])
  rw [List.map_nil] at w1
  have q1 := alike_eq hBw hBw (p ++ [c3])
  have q2 := alike_eq k2 k2 (p ++ [c3])
  simp only [decide_true, Bool.and_self] at q1 q2
  have mk := fun {L R} (h : Bk L R) ρ => mk_book h ρ (p ++ [c3]) hCl
  refine ⟨c3, ?_, hc3⟩
  have a1' : addD (.lst (R.map D.str)) (.lst [.str (List.replicate L.length 43)]) = some (.lst ((R ++ [List.replicate L.length 43]).map D.str)) := a1
  have a2' : addD (.lst (R.map D.str)) (.lst [.str s]) = some (.lst ((R ++ [s]).map D.str)) := a2
  have a4' : addD (.lst (R.map D.str)) (.lst [.str (List.replicate L.length 45)]) = some (.lst ((R ++ [List.replicate L.length 45]).map D.str)) := a4
  have ad1 : ∀ x1 x2 x3 y1 : D, addD (.lst [x1, x2, x3]) (.lst [y1]) = some (.lst [x1, x2, x3, y1]) := fun _ _ _ _ => rfl
  have ad2 : ∀ x1 x2 x3 x4 y1 y2 : D, addD (.lst [x1, x2, x3, x4]) (.lst [y1, y2]) = some (.lst [x1, x2, x3, x4, y1, y2]) := fun _ _ _ _ _ _ => rfl
  have ad3 : ∀ x1 x2 x3 x4 x5 x6 y1 y2 y3 : D, addD (.lst [x1, x2, x3, x4, x5, x6]) (.lst [y1, y2, y3]) = some (.lst [x1, x2, x3, x4, x5, x6, y1, y2, y3]) := fun _ _ _ _ _ _ _ _ _ => rfl
  have fP : ([.tup [.lst (L.map D.str), .lst (R.map D.str)], .tup [.lst (L.map D.str), .lst (R.reverse.map D.str)], .tup [.lst (L.map D.str), .lst ((R.take (R.length - 1)).map D.str)], .tup [.lst (L.map D.str), .lst ((R ++ [List.replicate L.length 43]).map D.str)], .tup [.lst (L.map D.str), .lst ((R ++ [s]).map D.str)], .tup [.lst (L2.map D.str), .lst (R.map D.str)], .tup [.lst (L.map D.str), .lst ((R ++ R.take 2).map D.str)], .tup [.lst (L.map D.str), .lst [.str (List.replicate L.length 45)]], .tup [.lst (L.map D.str), .lst ((R ++ [List.replicate L.length 45]).map D.str)]] : List D) = (P15 L L2 R s L.length).map prD := rfl
  unfold m_law_right_v14 ir_law_right_v14
  cases hone : decide (((L.length : Nat) : Int) = 1) with
  | true =>
    simp only [EV0, EV1, EV2, EV3, EV4, EV5, EV6, EV7, EV8, EV9, EV10, EV11, EV12, EV13, EV14, EV15, EV16, Option.bind_some, Option.bind_none, Option.map_some, Option.map_none, List.getElem?_cons_zero, List.getElem?_cons_succ, List.set_cons_zero, List.set_cons_succ, List.map_cons, List.map_nil, List.length_cons, List.length_nil, List.cons_append, List.nil_append, Bool.and_true, Bool.true_and, Bool.and_false, Bool.false_and, List.all_cons, List.all_nil, List.replicate, Bool.not_true, Bool.not_false, Bool.false_eq_true, if_true, if_false, ↓reduceIte, decide_true, decide_false, Nat.zero_add, Nat.reduceAdd, Nat.reduceSub, dd_lnbor, dd_lnown, dd_lnbrw, dd_plT, dd_rdT, dd_lnT, dd_dvT, dd_itT, dd_isT, dd_tyT, dd_lenT, dd_esT, dd_tpT, dd_lsT, dd_plB, dd_rdB, dd_lnB, dd_dvB, dd_icB, dd_f4B, dd_f5B, dd_f6B, e1, List.length_map, X_st, kSt1, kSt2, hn1, st_rev, sl_m1, ad1, hm, a1', ad2, e2, a2', e3, sl2, a3, hm2, a4', ad3, fP, hc1', hc0', e5, hone, t1, t2, t3, mk k1, mk k2, mk k3, q2, and_if, d1, d2]
  | false =>
    simp only [EV0, EV1, EV2, EV3, EV4, EV5, EV6, EV7, EV8, EV9, EV10, EV11, EV12, EV13, EV14, EV15, EV16, Option.bind_some, Option.bind_none, Option.map_some, Option.map_none, List.getElem?_cons_zero, List.getElem?_cons_succ, List.set_cons_zero, List.set_cons_succ, List.map_cons, List.map_nil, List.length_cons, List.length_nil, List.cons_append, List.nil_append, Bool.and_true, Bool.true_and, Bool.and_false, Bool.false_and, List.all_cons, List.all_nil, List.replicate, Bool.not_true, Bool.not_false, Bool.false_eq_true, if_true, if_false, ↓reduceIte, decide_true, decide_false, Nat.zero_add, Nat.reduceAdd, Nat.reduceSub, dd_lnbor, dd_lnown, dd_lnbrw, dd_plT, dd_rdT, dd_lnT, dd_dvT, dd_itT, dd_isT, dd_tyT, dd_lenT, dd_esT, dd_tpT, dd_lsT, dd_plB, dd_rdB, dd_lnB, dd_dvB, dd_icB, dd_f4B, dd_f5B, dd_f6B, e1, List.length_map, X_st, kSt1, kSt2, hn1, st_rev, sl_m1, ad1, hm, a1', ad2, e2, a2', e3, sl2, a3, hm2, a4', ad3, fP, hc1', hc0', e5, hone, t1, t2, t3, w1, mk hBw, mk k1, mk k2, mk k3, q1, and_if, d1, d2, List.map_nil]
theorem law15 (ns : List Int) (hn : ns.length ≤ 63) : ∃ S, m_law_v14 [.lst (ns.map .int)] [] = some (.bl true, S) := law_end (t := 4) (g := m_law_right_v14) (by omega) (by omega) right15 ns
end KK
set_option Elab.async false
set_option linter.all false
set_option maxRecDepth 100000
set_option maxHeartbeats 4000000
/-! written by wip/gen.py: the looks of rankedrules_k15_whole_needless_rows_and -/
namespace KK
open PySem PySem.Spec L2 DE
def top (i : Nat) : Stmt := PySem.Challenge.pw_rankedrules_k15_whole_needless_rows_and.main.body.getD i (.Pass ⟨0, 0, 0, 0⟩)
def inCls (i j : Nat) : Stmt := (C8.clsBody (top i)).getD j (.Pass ⟨0, 0, 0, 0⟩)
abbrev s_next_layer : Stmt := top 23
abbrev N_next_layer : List Str := ["rows", "placed", "many", "rule", "row"]
abbrev P_next_layer : List Str := ["rows", "placed", "many"]
theorem ck_next_layer : chkSs N_next_layer (defScope s_next_layer) ir_next_layer (defBody s_next_layer) = true := by decide +kernel
theorem sc_next_layer : FnScope N_next_layer P_next_layer (defScope s_next_layer) := ⟨rfl, rfl, rfl, by decide +kernel, rfl, by decide +kernel, by decide +kernel⟩
abbrev s_walked : Stmt := top 24
abbrev N_walked : List Str := ["rows", "many", "left", "rest", "found", "placed", "layer", "rule", "k", "row"]
abbrev P_walked : List Str := ["rows", "many"]
theorem ck_walked : chkSs N_walked (defScope s_walked) ir_walked (defBody s_walked) = true := by decide +kernel
theorem sc_walked : FnScope N_walked P_walked (defScope s_walked) := ⟨rfl, rfl, rfl, by decide +kernel, rfl, by decide +kernel, by decide +kernel⟩
abbrev s_do_fit : Stmt := top 25
abbrev N_do_fit : List Str := ["rows", "many"]
abbrev P_do_fit : List Str := ["rows", "many"]
theorem ck_do_fit : chkSs N_do_fit (defScope s_do_fit) ir_do_fit (defBody s_do_fit) = true := by decide +kernel
theorem sc_do_fit : FnScope N_do_fit P_do_fit (defScope s_do_fit) := ⟨rfl, rfl, rfl, by decide +kernel, rfl, by decide +kernel, by decide +kernel⟩
abbrev s_turned : Stmt := top 21
abbrev N_turned : List Str := ["row", "sign"]
abbrev P_turned : List Str := ["row"]
theorem ck_turned : chkSs N_turned (defScope s_turned) ir_turned (defBody s_turned) = true := by decide +kernel
theorem sc_turned : FnScope N_turned P_turned (defScope s_turned) := ⟨rfl, rfl, rfl, by decide +kernel, rfl, by decide +kernel, by decide +kernel⟩
abbrev s_is_sure : Stmt := top 27
abbrev N_is_sure : List Str := ["rows", "many", "row"]
abbrev P_is_sure : List Str := ["rows", "many", "row"]
theorem ck_is_sure : chkSs N_is_sure (defScope s_is_sure) ir_is_sure (defBody s_is_sure) = true := by decide +kernel
theorem sc_is_sure : FnScope N_is_sure P_is_sure (defScope s_is_sure) := ⟨rfl, rfl, rfl, by decide +kernel, rfl, by decide +kernel, by decide +kernel⟩
abbrev s_are_alike : Stmt := top 29
abbrev N_are_alike : List Str := ["book", "other", "many", "row"]
abbrev P_are_alike : List Str := ["book", "other"]
theorem ck_are_alike : chkSs N_are_alike (defScope s_are_alike) ir_are_alike (defBody s_are_alike) = true := by decide +kernel
theorem sc_are_alike : FnScope N_are_alike P_are_alike (defScope s_are_alike) := ⟨rfl, rfl, rfl, by decide +kernel, rfl, by decide +kernel, by decide +kernel⟩
abbrev s_check_book : Stmt := top 20
abbrev N_check_book : List Str := ["book"]
abbrev P_check_book : List Str := ["book"]
theorem ck_check_book : chkSs N_check_book (defScope s_check_book) ir_check_book (defBody s_check_book) = true := by decide +kernel
theorem sc_check_book : FnScope N_check_book P_check_book (defScope s_check_book) := ⟨rfl, rfl, rfl, by decide +kernel, rfl, by decide +kernel, by decide +kernel⟩
abbrev s_alike : Stmt := top 30
abbrev N_alike : List Str := ["book", "other"]
abbrev P_alike : List Str := ["book", "other"]
theorem ck_alike : chkSs N_alike (defScope s_alike) ir_alike (defBody s_alike) = true := by decide +kernel
theorem sc_alike : FnScope N_alike P_alike (defScope s_alike) := ⟨rfl, rfl, rfl, by decide +kernel, rfl, by decide +kernel, by decide +kernel⟩
abbrev s_is_row : Stmt := top 15
abbrev N_is_row : List Str := ["value", "many", "sign"]
abbrev P_is_row : List Str := ["value", "many"]
theorem ck_is_row : chkSs N_is_row (defScope s_is_row) ir_is_row (defBody s_is_row) = true := by decide +kernel
theorem sc_is_row : FnScope N_is_row P_is_row (defScope s_is_row) := ⟨rfl, rfl, rfl, by decide +kernel, rfl, by decide +kernel, by decide +kernel⟩
abbrev s_are_ascending : Stmt := top 13
abbrev N_are_ascending : List Str := ["values", "one", "later"]
abbrev P_are_ascending : List Str := ["values"]
theorem ck_are_ascending : chkSs N_are_ascending (defScope s_are_ascending) ir_are_ascending (defBody s_are_ascending) = true := by decide +kernel
theorem sc_are_ascending : FnScope N_are_ascending P_are_ascending (defScope s_are_ascending) := ⟨rfl, rfl, rfl, by decide +kernel, rfl, by decide +kernel, by decide +kernel⟩
abbrev s_is_name : Stmt := top 12
abbrev N_is_name : List Str := ["value", "sign"]
abbrev P_is_name : List Str := ["value"]
theorem ck_is_name : chkSs N_is_name (defScope s_is_name) ir_is_name (defBody s_is_name) = true := by decide +kernel
theorem sc_is_name : FnScope N_is_name P_is_name (defScope s_is_name) := ⟨rfl, rfl, rfl, by decide +kernel, rfl, by decide +kernel, by decide +kernel⟩
abbrev s_are_names : Stmt := top 16
abbrev N_are_names : List Str := ["names", "name"]
abbrev P_are_names : List Str := ["names"]
theorem ck_are_names : chkSs N_are_names (defScope s_are_names) ir_are_names (defBody s_are_names) = true := by decide +kernel
theorem sc_are_names : FnScope N_are_names P_are_names (defScope s_are_names) := ⟨rfl, rfl, rfl, by decide +kernel, rfl, by decide +kernel, by decide +kernel⟩
abbrev s_book_in : Stmt := top 17
abbrev N_book_in : List Str := ["text", "names", "rows", "head", "tail", "row"]
abbrev P_book_in : List Str := ["text"]
theorem ck_book_in : chkSs N_book_in (defScope s_book_in) ir_book_in (defBody s_book_in) = true := by decide +kernel
theorem sc_book_in : FnScope N_book_in P_book_in (defScope s_book_in) := ⟨rfl, rfl, rfl, by decide +kernel, rfl, by decide +kernel, by decide +kernel⟩
abbrev s_Book_init : Stmt := inCls 19 0
abbrev N_Book_init : List Str := ["self", "text", "found"]
abbrev P_Book_init : List Str := ["self", "text"]
theorem ck_Book_init : chkSs N_Book_init (defScope s_Book_init) ir_Book_init (defBody s_Book_init) = true := by decide +kernel
theorem sc_Book_init : FnScope N_Book_init P_Book_init (defScope s_Book_init) := ⟨rfl, rfl, rfl, by decide +kernel, rfl, by decide +kernel, by decide +kernel⟩
abbrev s_law_spelled : Stmt := top 41
abbrev N_law_spelled : List Str := ["_law_labels_here", "_law_rows_here"]
abbrev P_law_spelled : List Str := ["_law_labels_here", "_law_rows_here"]
theorem ck_law_spelled : chkSs N_law_spelled (defScope s_law_spelled) ir_law_spelled (defBody s_law_spelled) = true := by decide +kernel
theorem sc_law_spelled : FnScope N_law_spelled P_law_spelled (defScope s_law_spelled) := ⟨rfl, rfl, rfl, by decide +kernel, rfl, by decide +kernel, by decide +kernel⟩
abbrev s_needless : Stmt := top 28
abbrev N_needless : List Str := ["book", "rows", "many", "k", "row"]
abbrev P_needless : List Str := ["book"]
theorem ck_needless : chkSs N_needless (defScope s_needless) ir_needless (defBody s_needless) = true := by decide +kernel
theorem sc_needless : FnScope N_needless P_needless (defScope s_needless) := ⟨rfl, rfl, rfl, by decide +kernel, rfl, by decide +kernel, by decide +kernel⟩
abbrev s_law_holds : Stmt := top 36
abbrev N_law_holds : List Str := ["_law_row_here", "_law_order_here", "_law_signs_here", "_law_k"]
abbrev P_law_holds : List Str := ["_law_row_here", "_law_order_here"]
theorem ck_law_holds : chkSs N_law_holds (defScope s_law_holds) ir_law_holds (defBody s_law_holds) = true := by decide +kernel
theorem sc_law_holds : FnScope N_law_holds P_law_holds (defScope s_law_holds) := ⟨rfl, rfl, rfl, by decide +kernel, rfl, by decide +kernel, by decide +kernel⟩
abbrev s_law_all : Stmt := top 35
abbrev N_law_all : List Str := ["_law_many", "_law_found", "_law_turn", "_law_later", "_law_begun", "_law_k"]
abbrev P_law_all : List Str := ["_law_many"]
theorem ck_law_all : chkSs N_law_all (defScope s_law_all) ir_law_all (defBody s_law_all) = true := by decide +kernel
theorem sc_law_all : FnScope N_law_all P_law_all (defScope s_law_all) := ⟨rfl, rfl, rfl, by decide +kernel, rfl, by decide +kernel, by decide +kernel⟩
abbrev s_law_fitting_v1 : Stmt := top 37
abbrev N_law_fitting_v1 : List Str := ["_law_rows_here", "_law_many", "_law_found", "_law_row_here", "_law_order_here"]
abbrev P_law_fitting_v1 : List Str := ["_law_rows_here", "_law_many"]
theorem ck_law_fitting_v1 : chkSs N_law_fitting_v1 (defScope s_law_fitting_v1) ir_law_fitting_v1 (defBody s_law_fitting_v1) = true := by decide +kernel
theorem sc_law_fitting_v1 : FnScope N_law_fitting_v1 P_law_fitting_v1 (defScope s_law_fitting_v1) := ⟨rfl, rfl, rfl, by decide +kernel, rfl, by decide +kernel, by decide +kernel⟩
abbrev s_law_needless : Stmt := top 43
abbrev N_law_needless : List Str := ["_law_rows_here", "_law_many", "_law_found", "_law_k", "_law_some", "_law_order_here"]
abbrev P_law_needless : List Str := ["_law_rows_here", "_law_many"]
theorem ck_law_needless : chkSs N_law_needless (defScope s_law_needless) ir_law_needless (defBody s_law_needless) = true := by decide +kernel
theorem sc_law_needless : FnScope N_law_needless P_law_needless (defScope s_law_needless) := ⟨rfl, rfl, rfl, by decide +kernel, rfl, by decide +kernel, by decide +kernel⟩
abbrev s_law_draw : Stmt := top 33
abbrev N_law_draw : List Str := ["_law_purse_here", "_law_many", "_law_digit"]
abbrev P_law_draw : List Str := ["_law_purse_here", "_law_many"]
theorem ck_law_draw : chkSs N_law_draw (defScope s_law_draw) ir_law_draw (defBody s_law_draw) = true := by decide +kernel
theorem sc_law_draw : FnScope N_law_draw P_law_draw (defScope s_law_draw) := ⟨rfl, rfl, rfl, by decide +kernel, rfl, by decide +kernel, by decide +kernel⟩
abbrev s_law_labels : Stmt := top 34
abbrev N_law_labels : List Str := ["_law_purse_here", "_law_many", "_law_some", "_law_k"]
abbrev P_law_labels : List Str := ["_law_purse_here", "_law_many"]
theorem ck_law_labels : chkSs N_law_labels (defScope s_law_labels) ir_law_labels (defBody s_law_labels) = true := by decide +kernel
theorem sc_law_labels : FnScope N_law_labels P_law_labels (defScope s_law_labels) := ⟨rfl, rfl, rfl, by decide +kernel, rfl, by decide +kernel, by decide +kernel⟩
abbrev s_law_signs : Stmt := top 39
abbrev N_law_signs : List Str := ["_law_purse_here", "_law_many", "_law_k"]
abbrev P_law_signs : List Str := ["_law_purse_here", "_law_many"]
theorem ck_law_signs : chkSs N_law_signs (defScope s_law_signs) ir_law_signs (defBody s_law_signs) = true := by decide +kernel
theorem sc_law_signs : FnScope N_law_signs P_law_signs (defScope s_law_signs) := ⟨rfl, rfl, rfl, by decide +kernel, rfl, by decide +kernel, by decide +kernel⟩
abbrev s_law_flipped : Stmt := top 38
abbrev N_law_flipped : List Str := ["_law_row_here", "_law_sign"]
abbrev P_law_flipped : List Str := ["_law_row_here"]
theorem ck_law_flipped : chkSs N_law_flipped (defScope s_law_flipped) ir_law_flipped (defBody s_law_flipped) = true := by decide +kernel
theorem sc_law_flipped : FnScope N_law_flipped P_law_flipped (defScope s_law_flipped) := ⟨rfl, rfl, rfl, by decide +kernel, rfl, by decide +kernel, by decide +kernel⟩
abbrev s_law_rows : Stmt := top 40
abbrev N_law_rows : List Str := ["_law_purse_here", "_law_many", "_law_most", "_law_wrong", "_law_k", "_law_found", "_law_turn", "_law_left", "_law_hidden_order", "_law_row_here", "_law_is_kept"]
abbrev P_law_rows : List Str := ["_law_purse_here", "_law_many", "_law_most", "_law_wrong"]
theorem ck_law_rows : chkSs N_law_rows (defScope s_law_rows) ir_law_rows (defBody s_law_rows) = true := by decide +kernel
theorem sc_law_rows : FnScope N_law_rows P_law_rows (defScope s_law_rows) := ⟨rfl, rfl, rfl, by decide +kernel, rfl, by decide +kernel, by decide +kernel⟩
abbrev s_law_book : Stmt := top 42
abbrev N_law_book : List Str := ["_law_purse_here", "_law_least", "_law_span", "_law_most", "_law_many"]
abbrev P_law_book : List Str := ["_law_purse_here", "_law_least", "_law_span", "_law_most"]
theorem ck_law_book : chkSs N_law_book (defScope s_law_book) ir_law_book (defBody s_law_book) = true := by decide +kernel
theorem sc_law_book : FnScope N_law_book P_law_book (defScope s_law_book) := ⟨rfl, rfl, rfl, by decide +kernel, rfl, by decide +kernel, by decide +kernel⟩
abbrev s_law_right_v14 : Stmt := top 44
abbrev N_law_right_v14 : List Str := ["_law_purse_here", "_law_many", "_law_some", "_law_logs", "_law_fits_here", "_law_wide", "_law_labels_here", "_law_rows_here", "_law_k", "_law_log", "_law_due", "_law_j", "_law_mate", "_law_names_here", "_law_lines"]
abbrev P_law_right_v14 : List Str := ["_law_purse_here"]
theorem ck_law_right_v14 : chkSs N_law_right_v14 (defScope s_law_right_v14) ir_law_right_v14 (defBody s_law_right_v14) = true := by decide +kernel
theorem sc_law_right_v14 : FnScope N_law_right_v14 P_law_right_v14 (defScope s_law_right_v14) := ⟨rfl, rfl, rfl, by decide +kernel, rfl, by decide +kernel, by decide +kernel⟩
abbrev s_law_purse : Stmt := top 32
abbrev N_law_purse : List Str := ["_law_script", "_law_spot", "_law_cell", "_law_seed", "_law_one"]
abbrev P_law_purse : List Str := ["_law_script", "_law_spot"]
theorem ck_law_purse : chkSs N_law_purse (defScope s_law_purse) ir_law_purse (defBody s_law_purse) = true := by decide +kernel
theorem sc_law_purse : FnScope N_law_purse P_law_purse (defScope s_law_purse) := ⟨rfl, rfl, rfl, by decide +kernel, rfl, by decide +kernel, by decide +kernel⟩
abbrev s_law_v14 : Stmt := top 45
abbrev N_law_v14 : List Str := ["_law_script", "_law_spot"]
abbrev P_law_v14 : List Str := ["_law_script"]
theorem ck_law_v14 : chkSs N_law_v14 (defScope s_law_v14) ir_law_v14 (defBody s_law_v14) = true := by decide +kernel
theorem sc_law_v14 : FnScope N_law_v14 P_law_v14 (defScope s_law_v14) := ⟨rfl, rfl, rfl, by decide +kernel, rfl, by decide +kernel, by decide +kernel⟩
end KK
set_option Elab.async false
set_option linter.all false
set_option maxRecDepth 100000
set_option maxHeartbeats 4000000
/-! written by wip/gen.py: what the defs of rankedrules_k15_whole_needless_rows_and lean on -/
namespace KK
open PySem PySem.Spec L2 DE
abbrev Wk (K : PySem.W.Frag) : Wd := ⟨K, fun c => if c = 0 then some (He.ga K "Book") else none, fun i => nms.getD i "", 17, fun _ => none⟩
theorem injW {K : PySem.W.Frag} : Inj (Wk K) := fun i j hi hj e => (show ∀ i < 17, ∀ j < 17, nms.getD i "" = nms.getD j "" → i = j by decide +kernel) i hi j hj e
def d_next_layer : He.DefD := ⟨("next_layer", none), "next_layer", "next_layer", defArgs s_next_layer, defBody s_next_layer, defScope s_next_layer, [], []⟩
def d_walked : He.DefD := ⟨("walked", none), "walked", "walked", defArgs s_walked, defBody s_walked, defScope s_walked, [], []⟩
def d_do_fit : He.DefD := ⟨("do_fit", none), "do_fit", "do_fit", defArgs s_do_fit, defBody s_do_fit, defScope s_do_fit, [], []⟩
def d_turned : He.DefD := ⟨("turned", none), "turned", "turned", defArgs s_turned, defBody s_turned, defScope s_turned, [], []⟩
def d_is_sure : He.DefD := ⟨("is_sure", none), "is_sure", "is_sure", defArgs s_is_sure, defBody s_is_sure, defScope s_is_sure, [], []⟩
def d_are_alike : He.DefD := ⟨("are_alike", none), "are_alike", "are_alike", defArgs s_are_alike, defBody s_are_alike, defScope s_are_alike, [], []⟩
def d_check_book : He.DefD := ⟨("check_book", none), "check_book", "check_book", defArgs s_check_book, defBody s_check_book, defScope s_check_book, [], []⟩
def d_alike : He.DefD := ⟨("alike", none), "alike", "alike", defArgs s_alike, defBody s_alike, defScope s_alike, [], []⟩
def d_is_row : He.DefD := ⟨("is_row", none), "is_row", "is_row", defArgs s_is_row, defBody s_is_row, defScope s_is_row, [], []⟩
def d_are_ascending : He.DefD := ⟨("are_ascending", none), "are_ascending", "are_ascending", defArgs s_are_ascending, defBody s_are_ascending, defScope s_are_ascending, [], []⟩
def d_is_name : He.DefD := ⟨("is_name", none), "is_name", "is_name", defArgs s_is_name, defBody s_is_name, defScope s_is_name, [], []⟩
def d_are_names : He.DefD := ⟨("are_names", none), "are_names", "are_names", defArgs s_are_names, defBody s_are_names, defScope s_are_names, [], []⟩
def d_book_in : He.DefD := ⟨("book_in", none), "book_in", "book_in", defArgs s_book_in, defBody s_book_in, defScope s_book_in, [], []⟩
def d_Book_init : He.DefD := ⟨("Book", some "__init__"), "__init__", "Book.__init__", defArgs s_Book_init, defBody s_Book_init, defScope s_Book_init, [], []⟩
def d_law_spelled : He.DefD := ⟨("_law_spelled", none), "_law_spelled", "_law_spelled", defArgs s_law_spelled, defBody s_law_spelled, defScope s_law_spelled, [], []⟩
def d_needless : He.DefD := ⟨("needless", none), "needless", "needless", defArgs s_needless, defBody s_needless, defScope s_needless, [], []⟩
def d_law_holds : He.DefD := ⟨("_law_holds", none), "_law_holds", "_law_holds", defArgs s_law_holds, defBody s_law_holds, defScope s_law_holds, [], []⟩
def d_law_all : He.DefD := ⟨("_law_all", none), "_law_all", "_law_all", defArgs s_law_all, defBody s_law_all, defScope s_law_all, [], []⟩
def d_law_fitting_v1 : He.DefD := ⟨("_law_fitting", none), "_law_fitting", "_law_fitting", defArgs s_law_fitting_v1, defBody s_law_fitting_v1, defScope s_law_fitting_v1, [], []⟩
def d_law_needless : He.DefD := ⟨("_law_needless", none), "_law_needless", "_law_needless", defArgs s_law_needless, defBody s_law_needless, defScope s_law_needless, [], []⟩
def d_law_draw : He.DefD := ⟨("_law_draw", none), "_law_draw", "_law_draw", defArgs s_law_draw, defBody s_law_draw, defScope s_law_draw, [], []⟩
def d_law_labels : He.DefD := ⟨("_law_labels", none), "_law_labels", "_law_labels", defArgs s_law_labels, defBody s_law_labels, defScope s_law_labels, [], []⟩
def d_law_signs : He.DefD := ⟨("_law_signs", none), "_law_signs", "_law_signs", defArgs s_law_signs, defBody s_law_signs, defScope s_law_signs, [], []⟩
def d_law_flipped : He.DefD := ⟨("_law_flipped", none), "_law_flipped", "_law_flipped", defArgs s_law_flipped, defBody s_law_flipped, defScope s_law_flipped, [], []⟩
def d_law_rows : He.DefD := ⟨("_law_rows", none), "_law_rows", "_law_rows", defArgs s_law_rows, defBody s_law_rows, defScope s_law_rows, [], []⟩
def d_law_book : He.DefD := ⟨("_law_book", none), "_law_book", "_law_book", defArgs s_law_book, defBody s_law_book, defScope s_law_book, [], []⟩
def d_law_right_v14 : He.DefD := ⟨("_law_right", none), "_law_right", "_law_right", defArgs s_law_right_v14, defBody s_law_right_v14, defScope s_law_right_v14, [], []⟩
def d_law_purse : He.DefD := ⟨("_law_purse", none), "_law_purse", "_law_purse", defArgs s_law_purse, defBody s_law_purse, defScope s_law_purse, [], []⟩
def d_law_v14 : He.DefD := ⟨("law", none), "law", "law", defArgs s_law_v14, defBody s_law_v14, defScope s_law_v14, [], []⟩
def fn : List He.DefD := [d_next_layer, d_walked, d_do_fit, d_turned, d_is_sure, d_are_alike, d_check_book, d_alike, d_is_row, d_are_ascending, d_is_name, d_are_names, d_book_in, d_Book_init, d_law_spelled, d_needless, d_law_holds, d_law_all, d_law_fitting_v1, d_law_needless, d_law_draw, d_law_labels, d_law_signs, d_law_flipped, d_law_rows, d_law_book, d_law_right_v14, d_law_purse, d_law_v14]
def fa : List He.Fa := [.glo "next_layer", .glo "walked", .glo "do_fit", .glo "turned", .glo "is_sure", .glo "are_alike", .glo "check_book", .glo "alike", .glo "is_row", .glo "are_ascending", .glo "is_name", .glo "are_names", .glo "book_in", .glo "_law_spelled", .glo "needless", .glo "_law_holds", .glo "_law_all", .glo "_law_fitting", .glo "_law_needless", .glo "_law_draw", .glo "_law_labels", .glo "_law_signs", .glo "_law_flipped", .glo "_law_rows", .glo "_law_book", .glo "_law_right", .glo "_law_purse", .glo "law", .free "abs", .free "all", .free "any", .free "divmod", .free "enumerate", .free "int", .free "isinstance", .free "len", .free "list", .free "max", .free "min", .free "range", .free "repr", .free "sorted", .free "str", .free "tuple", .free "zip", .str "LETTERS" "abcdefghijklmnopqrstuvwxyz", .int "MOST_ROWS" 20, .int "MOST_RULES" 8, .glo "Book", .cls "Book", .mkr "Book", .noat "Book" "lines", .noat "Book" "rules", .noat "Book" "written"]
def ex (K : PySem.W.Frag) : Bool := (He.eqO (PySem.W.findIn K (.ref (He.ga K "Book")) "__class__") (some (some (.builtin "object.__class__"))) && (He.eqO (PySem.W.specialIn K (.builtin "object.__class__") "__get__") (some (some (.builtin "getset_descriptor.__get__"))) && (decide (PySem.W.takesIn K (.builtin "object.__class__") = some true) && (decide (PySem.W.mroIn K (He.ga K "Book") (.type "object") = some true) && decide (PySem.W.kitOne K (.ref (He.ga K "Book")) (.ref (He.ga K "Book")) = some true)))))
structure Hd (K : PySem.W.Frag) (mg : Str → Option Value) : Prop where
  c : He.SaysD fa fn K
  ex : ex K = true
  ns : ∃ h : Heap, K.In h ∧ h.Ns mainGlobals mg
section
variable {P : Program} {w : World} {K : PySem.W.Frag} {mg : Str → Option Value} {base : Heap}
theorem gl_next_layer (H : Hd K mg) : mg "next_layer" = some (.ref (He.ga K "next_layer")) := let ⟨_, X, G⟩ := H.ns; He.glo_ok X G (H.c.fact 0 rfl)
theorem gl_walked (H : Hd K mg) : mg "walked" = some (.ref (He.ga K "walked")) := let ⟨_, X, G⟩ := H.ns; He.glo_ok X G (H.c.fact 1 rfl)
theorem gl_do_fit (H : Hd K mg) : mg "do_fit" = some (.ref (He.ga K "do_fit")) := let ⟨_, X, G⟩ := H.ns; He.glo_ok X G (H.c.fact 2 rfl)
theorem gl_turned (H : Hd K mg) : mg "turned" = some (.ref (He.ga K "turned")) := let ⟨_, X, G⟩ := H.ns; He.glo_ok X G (H.c.fact 3 rfl)
theorem gl_is_sure (H : Hd K mg) : mg "is_sure" = some (.ref (He.ga K "is_sure")) := let ⟨_, X, G⟩ := H.ns; He.glo_ok X G (H.c.fact 4 rfl)
theorem gl_are_alike (H : Hd K mg) : mg "are_alike" = some (.ref (He.ga K "are_alike")) := let ⟨_, X, G⟩ := H.ns; He.glo_ok X G (H.c.fact 5 rfl)
theorem gl_check_book (H : Hd K mg) : mg "check_book" = some (.ref (He.ga K "check_book")) := let ⟨_, X, G⟩ := H.ns; He.glo_ok X G (H.c.fact 6 rfl)
theorem gl_alike (H : Hd K mg) : mg "alike" = some (.ref (He.ga K "alike")) := let ⟨_, X, G⟩ := H.ns; He.glo_ok X G (H.c.fact 7 rfl)
theorem gl_is_row (H : Hd K mg) : mg "is_row" = some (.ref (He.ga K "is_row")) := let ⟨_, X, G⟩ := H.ns; He.glo_ok X G (H.c.fact 8 rfl)
theorem gl_are_ascending (H : Hd K mg) : mg "are_ascending" = some (.ref (He.ga K "are_ascending")) := let ⟨_, X, G⟩ := H.ns; He.glo_ok X G (H.c.fact 9 rfl)
theorem gl_is_name (H : Hd K mg) : mg "is_name" = some (.ref (He.ga K "is_name")) := let ⟨_, X, G⟩ := H.ns; He.glo_ok X G (H.c.fact 10 rfl)
theorem gl_are_names (H : Hd K mg) : mg "are_names" = some (.ref (He.ga K "are_names")) := let ⟨_, X, G⟩ := H.ns; He.glo_ok X G (H.c.fact 11 rfl)
theorem gl_book_in (H : Hd K mg) : mg "book_in" = some (.ref (He.ga K "book_in")) := let ⟨_, X, G⟩ := H.ns; He.glo_ok X G (H.c.fact 12 rfl)
theorem gl_law_spelled (H : Hd K mg) : mg "_law_spelled" = some (.ref (He.ga K "_law_spelled")) := let ⟨_, X, G⟩ := H.ns; He.glo_ok X G (H.c.fact 13 rfl)
theorem gl_needless (H : Hd K mg) : mg "needless" = some (.ref (He.ga K "needless")) := let ⟨_, X, G⟩ := H.ns; He.glo_ok X G (H.c.fact 14 rfl)
theorem gl_law_holds (H : Hd K mg) : mg "_law_holds" = some (.ref (He.ga K "_law_holds")) := let ⟨_, X, G⟩ := H.ns; He.glo_ok X G (H.c.fact 15 rfl)
theorem gl_law_all (H : Hd K mg) : mg "_law_all" = some (.ref (He.ga K "_law_all")) := let ⟨_, X, G⟩ := H.ns; He.glo_ok X G (H.c.fact 16 rfl)
theorem gl_law_fitting_v1 (H : Hd K mg) : mg "_law_fitting" = some (.ref (He.ga K "_law_fitting")) := let ⟨_, X, G⟩ := H.ns; He.glo_ok X G (H.c.fact 17 rfl)
theorem gl_law_needless (H : Hd K mg) : mg "_law_needless" = some (.ref (He.ga K "_law_needless")) := let ⟨_, X, G⟩ := H.ns; He.glo_ok X G (H.c.fact 18 rfl)
theorem gl_law_draw (H : Hd K mg) : mg "_law_draw" = some (.ref (He.ga K "_law_draw")) := let ⟨_, X, G⟩ := H.ns; He.glo_ok X G (H.c.fact 19 rfl)
theorem gl_law_labels (H : Hd K mg) : mg "_law_labels" = some (.ref (He.ga K "_law_labels")) := let ⟨_, X, G⟩ := H.ns; He.glo_ok X G (H.c.fact 20 rfl)
theorem gl_law_signs (H : Hd K mg) : mg "_law_signs" = some (.ref (He.ga K "_law_signs")) := let ⟨_, X, G⟩ := H.ns; He.glo_ok X G (H.c.fact 21 rfl)
theorem gl_law_flipped (H : Hd K mg) : mg "_law_flipped" = some (.ref (He.ga K "_law_flipped")) := let ⟨_, X, G⟩ := H.ns; He.glo_ok X G (H.c.fact 22 rfl)
theorem gl_law_rows (H : Hd K mg) : mg "_law_rows" = some (.ref (He.ga K "_law_rows")) := let ⟨_, X, G⟩ := H.ns; He.glo_ok X G (H.c.fact 23 rfl)
theorem gl_law_book (H : Hd K mg) : mg "_law_book" = some (.ref (He.ga K "_law_book")) := let ⟨_, X, G⟩ := H.ns; He.glo_ok X G (H.c.fact 24 rfl)
theorem gl_law_right_v14 (H : Hd K mg) : mg "_law_right" = some (.ref (He.ga K "_law_right")) := let ⟨_, X, G⟩ := H.ns; He.glo_ok X G (H.c.fact 25 rfl)
theorem gl_law_purse (H : Hd K mg) : mg "_law_purse" = some (.ref (He.ga K "_law_purse")) := let ⟨_, X, G⟩ := H.ns; He.glo_ok X G (H.c.fact 26 rfl)
theorem gl_law_v14 (H : Hd K mg) : mg "law" = some (.ref (He.ga K "law")) := let ⟨_, X, G⟩ := H.ns; He.glo_ok X G (H.c.fact 27 rfl)
theorem fr_abs (H : Hd K mg) : mg "abs" = none := let ⟨_, X, G⟩ := H.ns; He.free_ok X G (H.c.fact 28 rfl)
theorem fr_all (H : Hd K mg) : mg "all" = none := let ⟨_, X, G⟩ := H.ns; He.free_ok X G (H.c.fact 29 rfl)
theorem fr_any (H : Hd K mg) : mg "any" = none := let ⟨_, X, G⟩ := H.ns; He.free_ok X G (H.c.fact 30 rfl)
theorem fr_divmod (H : Hd K mg) : mg "divmod" = none := let ⟨_, X, G⟩ := H.ns; He.free_ok X G (H.c.fact 31 rfl)
theorem fr_enumerate (H : Hd K mg) : mg "enumerate" = none := let ⟨_, X, G⟩ := H.ns; He.free_ok X G (H.c.fact 32 rfl)
theorem fr_int (H : Hd K mg) : mg "int" = none := let ⟨_, X, G⟩ := H.ns; He.free_ok X G (H.c.fact 33 rfl)
theorem fr_isinstance (H : Hd K mg) : mg "isinstance" = none := let ⟨_, X, G⟩ := H.ns; He.free_ok X G (H.c.fact 34 rfl)
theorem fr_len (H : Hd K mg) : mg "len" = none := let ⟨_, X, G⟩ := H.ns; He.free_ok X G (H.c.fact 35 rfl)
theorem fr_list (H : Hd K mg) : mg "list" = none := let ⟨_, X, G⟩ := H.ns; He.free_ok X G (H.c.fact 36 rfl)
theorem fr_max (H : Hd K mg) : mg "max" = none := let ⟨_, X, G⟩ := H.ns; He.free_ok X G (H.c.fact 37 rfl)
theorem fr_min (H : Hd K mg) : mg "min" = none := let ⟨_, X, G⟩ := H.ns; He.free_ok X G (H.c.fact 38 rfl)
theorem fr_range (H : Hd K mg) : mg "range" = none := let ⟨_, X, G⟩ := H.ns; He.free_ok X G (H.c.fact 39 rfl)
theorem fr_repr (H : Hd K mg) : mg "repr" = none := let ⟨_, X, G⟩ := H.ns; He.free_ok X G (H.c.fact 40 rfl)
theorem fr_sorted (H : Hd K mg) : mg "sorted" = none := let ⟨_, X, G⟩ := H.ns; He.free_ok X G (H.c.fact 41 rfl)
theorem fr_str (H : Hd K mg) : mg "str" = none := let ⟨_, X, G⟩ := H.ns; He.free_ok X G (H.c.fact 42 rfl)
theorem fr_tuple (H : Hd K mg) : mg "tuple" = none := let ⟨_, X, G⟩ := H.ns; He.free_ok X G (H.c.fact 43 rfl)
theorem fr_zip (H : Hd K mg) : mg "zip" = none := let ⟨_, X, G⟩ := H.ns; He.free_ok X G (H.c.fact 44 rfl)
theorem co_LETTERS (H : Hd K mg) : GloN ⟨P, w, mg, base, Wk K⟩ "LETTERS" (.str [97, 98, 99, 100, 101, 102, 103, 104, 105, 106, 107, 108, 109, 110, 111, 112, 113, 114, 115, 116, 117, 118, 119, 120, 121, 122]) := let ⟨_, X, G⟩ := H.ns; let ⟨t, e⟩ := He.str_ok X G (H.c.fact 45 rfl); ⟨_, .str (SX.S [97, 98, 99, 100, 101, 102, 103, 104, 105, 106, 107, 108, 109, 110, 111, 112, 113, 114, 115, 116, 117, 118, 119, 120, 121, 122]), e, ⟨t, by rfl⟩, rfl, fun _ _ => rep_str (by rw [sizeLine_eq]; decide)⟩
theorem co_MOST_ROWS (H : Hd K mg) : GloN ⟨P, w, mg, base, Wk K⟩ "MOST_ROWS" (.int 20) := let ⟨_, X, G⟩ := H.ns; let ⟨t, e⟩ := He.int_ok X G (H.c.fact 46 rfl); ⟨_, .int 20, e, ⟨t, rfl⟩, rfl, fun _ _ => rep_int⟩
theorem co_MOST_RULES (H : Hd K mg) : GloN ⟨P, w, mg, base, Wk K⟩ "MOST_RULES" (.int 8) := let ⟨_, X, G⟩ := H.ns; let ⟨t, e⟩ := He.int_ok X G (H.c.fact 47 rfl); ⟨_, .int 8, e, ⟨t, rfl⟩, rfl, fun _ _ => rep_int⟩
theorem gl_Book (H : Hd K mg) : mg "Book" = some (.ref (He.ga K "Book")) := let ⟨_, X, G⟩ := H.ns; He.glo_ok X G (H.c.fact 48 rfl)
theorem cl_Book (H : Hd K mg) : Cls K (He.ga K "Book") := He.cls_ok (H.c.fact 49 rfl)
theorem ic_Book (H : Hd K mg) : C8.InsC K (He.ga K "Book") := by
  have h := H.ex
  unfold ex at h
  simp only [Bool.and_eq_true, decide_eq_true_eq] at h
  exact ⟨cl_Book H, He.eqO_ok h.1, He.eqO_ok h.2.1, h.2.2.1, h.2.2.2.1, h.2.2.2.2⟩
theorem na_lines (H : Hd K mg) : ∀ c C, (Wk K).cls c = some C → NoAttr (Wk K).K C "lines" := fun c C e => by
  replace e : (if c = 0 then some (He.ga K "Book") else none) = some C := e
  by_cases h0 : c = 0
  · rw [if_pos h0] at e; cases e; exact He.noat_ok (H.c.fact 51 rfl)
  rw [if_neg h0] at e
  cases e
theorem na_rules (H : Hd K mg) : ∀ c C, (Wk K).cls c = some C → NoAttr (Wk K).K C "rules" := fun c C e => by
  replace e : (if c = 0 then some (He.ga K "Book") else none) = some C := e
  by_cases h0 : c = 0
  · rw [if_pos h0] at e; cases e; exact He.noat_ok (H.c.fact 52 rfl)
  rw [if_neg h0] at e
  cases e
theorem na_written (H : Hd K mg) : ∀ c C, (Wk K).cls c = some C → NoAttr (Wk K).K C "written" := fun c C e => by
  replace e : (if c = 0 then some (He.ga K "Book") else none) = some C := e
  by_cases h0 : c = 0
  · rw [if_pos h0] at e; cases e; exact He.noat_ok (H.c.fact 53 rfl)
  rw [if_neg h0] at e
  cases e
theorem nd_next_layer (H : Hd K mg) : needSs ⟨P, w, mg, base, Wk K⟩ 0 ir_next_layer := by
  unfold ir_next_layer
  simp only [next_layer_c0, next_layer_c1, needSs, needS, needE, needEs, needF, needI, needO, needG, needGs, needP, and_true, true_and]
  repeat' (with_reducible apply And.intro)
  all_goals first
    | exact addN
    | exact subN
    | exact mulN
    | exact fdivN
    | exact modN
    | exact powN
    | exact eqN
    | exact neN
    | exact ltN
    | exact leN
    | exact gtN
    | exact geN
    | exact inN
    | exact ninN
    | exact isN
    | exact isnotN
    | exact ixN1
    | exact slN1
    | exact lenN
    | exact allN
    | exact anyN
    | exact absN
    | exact max2N
    | exact min2N
    | exact intN
    | exact divmodN
    | exact sumN
    | exact tupleN
    | exact listN
    | exact sortedN
    | exact splitN
    | exact joinN
    | exact scountN
    | exact lcountN
    | exact dsubN
    | exact reprN
    | exact negN
    | exact stpN
    | exact ⟨_, PySem.F.slot_list_pop, PySem.F.type_list_pop, fun _ _ => ⟨_, mt_popAt, mu_pop⟩⟩
    | exact ⟨_, PySem.F.slot_list_extend, PySem.F.type_list_extend, fun X ad => ⟨_, mt_extR, ad.k ▸ mu_ext⟩⟩
    | exact fr_abs H
    | exact fr_all H
    | exact fr_any H
    | exact fr_divmod H
    | exact fr_enumerate H
    | exact fr_int H
    | exact fr_isinstance H
    | exact fr_len H
    | exact fr_list H
    | exact fr_max H
    | exact fr_min H
    | exact fr_range H
    | exact fr_repr H
    | exact fr_sorted H
    | exact fr_str H
    | exact fr_tuple H
    | exact fr_zip H
    | exact fldN (k := 6) (show 6 < 17 by decide) rfl injW
    | exact fldN (k := 5) (show 5 < 17 by decide) rfl injW
    | exact fldN (k := 4) (show 4 < 17 by decide) rfl injW
    | exact lrgN (fr_list H) (fr_range H)
    | exact enumN (fr_enumerate H)
theorem fg_next_layer (H : Hd K mg) : ∃ fd, FunD K "next_layer" "next_layer" (defArgs s_next_layer) (defBody s_next_layer) (defScope s_next_layer) [] [] (He.ga K "next_layer") fd ∧ FnG P w K mg base 1 (He.ga K "next_layer") fd P_next_layer (spD (Wk K) 3 m_next_layer) ∧ Binds K fd P_next_layer [] := by
  obtain ⟨fd, F⟩ := H.c.def_ 0 (d := d_next_layer) rfl
  replace F : FunD K "next_layer" "next_layer" (defArgs s_next_layer) (defBody s_next_layer) (defScope s_next_layer) [] [] (He.ga K "next_layer") fd := F
  exact ⟨fd, F, fn_ok (W := Wk K) rfl F sc_next_layer rfl (by decide) ck_next_layer (nd_next_layer H), F.bindsN fun _ _ _ _ _ _ us hl => match us, hl with | [_, _, _], _ => rfl⟩
theorem cal_next_layer (H : Hd K mg) : Cal P w K mg base (Wk K) 1 "next_layer" 3 m_next_layer := by
  obtain ⟨fd, F, G, b⟩ := fg_next_layer (P := P) (w := w) (base := base) H
  exact ⟨_, fd, _, G, gl_next_layer H, F.kp, b⟩
theorem nd_walked (H : Hd K mg) : needSs ⟨P, w, mg, base, Wk K⟩ 1 ir_walked := by
  unfold ir_walked
  simp only [walked_c0, walked_c1, walked_c2, walked_c3, walked_b0, walked_c4, needSs, needS, needE, needEs, needF, needI, needO, needG, needGs, needP, and_true, true_and]
  repeat' (with_reducible apply And.intro)
  all_goals first
    | exact addN
    | exact subN
    | exact mulN
    | exact fdivN
    | exact modN
    | exact powN
    | exact eqN
    | exact neN
    | exact ltN
    | exact leN
    | exact gtN
    | exact geN
    | exact inN
    | exact ninN
    | exact isN
    | exact isnotN
    | exact ixN1
    | exact slN1
    | exact lenN
    | exact allN
    | exact anyN
    | exact absN
    | exact max2N
    | exact min2N
    | exact intN
    | exact divmodN
    | exact sumN
    | exact tupleN
    | exact listN
    | exact sortedN
    | exact splitN
    | exact joinN
    | exact scountN
    | exact lcountN
    | exact dsubN
    | exact reprN
    | exact negN
    | exact stpN
    | exact ⟨_, PySem.F.slot_list_pop, PySem.F.type_list_pop, fun _ _ => ⟨_, mt_popAt, mu_pop⟩⟩
    | exact ⟨_, PySem.F.slot_list_extend, PySem.F.type_list_extend, fun X ad => ⟨_, mt_extR, ad.k ▸ mu_ext⟩⟩
    | exact fr_abs H
    | exact fr_all H
    | exact fr_any H
    | exact fr_divmod H
    | exact fr_enumerate H
    | exact fr_int H
    | exact fr_isinstance H
    | exact fr_len H
    | exact fr_list H
    | exact fr_max H
    | exact fr_min H
    | exact fr_range H
    | exact fr_repr H
    | exact fr_sorted H
    | exact fr_str H
    | exact fr_tuple H
    | exact fr_zip H
    | exact ⟨1, by decide, cal_next_layer H⟩
    | exact fldN (k := 6) (show 6 < 17 by decide) rfl injW
    | exact fldN (k := 5) (show 5 < 17 by decide) rfl injW
    | exact fldN (k := 4) (show 4 < 17 by decide) rfl injW
    | exact lrgN (fr_list H) (fr_range H)
    | exact enumN (fr_enumerate H)
theorem fg_walked (H : Hd K mg) : ∃ fd, FunD K "walked" "walked" (defArgs s_walked) (defBody s_walked) (defScope s_walked) [] [] (He.ga K "walked") fd ∧ FnG P w K mg base 2 (He.ga K "walked") fd P_walked (spD (Wk K) 2 m_walked) ∧ Binds K fd P_walked [] := by
  obtain ⟨fd, F⟩ := H.c.def_ 1 (d := d_walked) rfl
  replace F : FunD K "walked" "walked" (defArgs s_walked) (defBody s_walked) (defScope s_walked) [] [] (He.ga K "walked") fd := F
  exact ⟨fd, F, fn_ok (W := Wk K) rfl F sc_walked rfl (by decide) ck_walked (nd_walked H), F.bindsN fun _ _ _ _ _ _ us hl => match us, hl with | [_, _], _ => rfl⟩
theorem cal_walked (H : Hd K mg) : Cal P w K mg base (Wk K) 2 "walked" 2 m_walked := by
  obtain ⟨fd, F, G, b⟩ := fg_walked (P := P) (w := w) (base := base) H
  exact ⟨_, fd, _, G, gl_walked H, F.kp, b⟩
theorem nd_do_fit (H : Hd K mg) : needSs ⟨P, w, mg, base, Wk K⟩ 2 ir_do_fit := by
  unfold ir_do_fit
  simp only [needSs, needS, needE, needEs, needF, needI, needO, needG, needGs, needP, and_true, true_and]
  repeat' (with_reducible apply And.intro)
  all_goals first
    | exact addN
    | exact subN
    | exact mulN
    | exact fdivN
    | exact modN
    | exact powN
    | exact eqN
    | exact neN
    | exact ltN
    | exact leN
    | exact gtN
    | exact geN
    | exact inN
    | exact ninN
    | exact isN
    | exact isnotN
    | exact ixN1
    | exact slN1
    | exact lenN
    | exact allN
    | exact anyN
    | exact absN
    | exact max2N
    | exact min2N
    | exact intN
    | exact divmodN
    | exact sumN
    | exact tupleN
    | exact listN
    | exact sortedN
    | exact splitN
    | exact joinN
    | exact scountN
    | exact lcountN
    | exact dsubN
    | exact reprN
    | exact negN
    | exact stpN
    | exact ⟨_, PySem.F.slot_list_pop, PySem.F.type_list_pop, fun _ _ => ⟨_, mt_popAt, mu_pop⟩⟩
    | exact ⟨_, PySem.F.slot_list_extend, PySem.F.type_list_extend, fun X ad => ⟨_, mt_extR, ad.k ▸ mu_ext⟩⟩
    | exact fr_abs H
    | exact fr_all H
    | exact fr_any H
    | exact fr_divmod H
    | exact fr_enumerate H
    | exact fr_int H
    | exact fr_isinstance H
    | exact fr_len H
    | exact fr_list H
    | exact fr_max H
    | exact fr_min H
    | exact fr_range H
    | exact fr_repr H
    | exact fr_sorted H
    | exact fr_str H
    | exact fr_tuple H
    | exact fr_zip H
    | exact ⟨2, by decide, cal_walked H⟩
    | exact fldN (k := 6) (show 6 < 17 by decide) rfl injW
    | exact fldN (k := 5) (show 5 < 17 by decide) rfl injW
    | exact fldN (k := 4) (show 4 < 17 by decide) rfl injW
    | exact lrgN (fr_list H) (fr_range H)
    | exact enumN (fr_enumerate H)
theorem fg_do_fit (H : Hd K mg) : ∃ fd, FunD K "do_fit" "do_fit" (defArgs s_do_fit) (defBody s_do_fit) (defScope s_do_fit) [] [] (He.ga K "do_fit") fd ∧ FnG P w K mg base 3 (He.ga K "do_fit") fd P_do_fit (spD (Wk K) 2 m_do_fit) ∧ Binds K fd P_do_fit [] := by
  obtain ⟨fd, F⟩ := H.c.def_ 2 (d := d_do_fit) rfl
  replace F : FunD K "do_fit" "do_fit" (defArgs s_do_fit) (defBody s_do_fit) (defScope s_do_fit) [] [] (He.ga K "do_fit") fd := F
  exact ⟨fd, F, fn_ok (W := Wk K) rfl F sc_do_fit rfl (by decide) ck_do_fit (nd_do_fit H), F.bindsN fun _ _ _ _ _ _ us hl => match us, hl with | [_, _], _ => rfl⟩
theorem cal_do_fit (H : Hd K mg) : Cal P w K mg base (Wk K) 3 "do_fit" 2 m_do_fit := by
  obtain ⟨fd, F, G, b⟩ := fg_do_fit (P := P) (w := w) (base := base) H
  exact ⟨_, fd, _, G, gl_do_fit H, F.kp, b⟩
theorem nd_turned (H : Hd K mg) : needSs ⟨P, w, mg, base, Wk K⟩ 0 ir_turned := by
  unfold ir_turned
  simp only [turned_c0, needSs, needS, needE, needEs, needF, needI, needO, needG, needGs, needP, and_true, true_and]
  repeat' (with_reducible apply And.intro)
  all_goals first
    | exact addN
    | exact subN
    | exact mulN
    | exact fdivN
    | exact modN
    | exact powN
    | exact eqN
    | exact neN
    | exact ltN
    | exact leN
    | exact gtN
    | exact geN
    | exact inN
    | exact ninN
    | exact isN
    | exact isnotN
    | exact ixN1
    | exact slN1
    | exact lenN
    | exact allN
    | exact anyN
    | exact absN
    | exact max2N
    | exact min2N
    | exact intN
    | exact divmodN
    | exact sumN
    | exact tupleN
    | exact listN
    | exact sortedN
    | exact splitN
    | exact joinN
    | exact scountN
    | exact lcountN
    | exact dsubN
    | exact reprN
    | exact negN
    | exact stpN
    | exact ⟨_, PySem.F.slot_list_pop, PySem.F.type_list_pop, fun _ _ => ⟨_, mt_popAt, mu_pop⟩⟩
    | exact ⟨_, PySem.F.slot_list_extend, PySem.F.type_list_extend, fun X ad => ⟨_, mt_extR, ad.k ▸ mu_ext⟩⟩
    | exact fr_abs H
    | exact fr_all H
    | exact fr_any H
    | exact fr_divmod H
    | exact fr_enumerate H
    | exact fr_int H
    | exact fr_isinstance H
    | exact fr_len H
    | exact fr_list H
    | exact fr_max H
    | exact fr_min H
    | exact fr_range H
    | exact fr_repr H
    | exact fr_sorted H
    | exact fr_str H
    | exact fr_tuple H
    | exact fr_zip H
    | exact fldN (k := 6) (show 6 < 17 by decide) rfl injW
    | exact fldN (k := 5) (show 5 < 17 by decide) rfl injW
    | exact fldN (k := 4) (show 4 < 17 by decide) rfl injW
    | exact lrgN (fr_list H) (fr_range H)
    | exact enumN (fr_enumerate H)
theorem fg_turned (H : Hd K mg) : ∃ fd, FunD K "turned" "turned" (defArgs s_turned) (defBody s_turned) (defScope s_turned) [] [] (He.ga K "turned") fd ∧ FnG P w K mg base 1 (He.ga K "turned") fd P_turned (spD (Wk K) 1 m_turned) ∧ Binds K fd P_turned [] := by
  obtain ⟨fd, F⟩ := H.c.def_ 3 (d := d_turned) rfl
  replace F : FunD K "turned" "turned" (defArgs s_turned) (defBody s_turned) (defScope s_turned) [] [] (He.ga K "turned") fd := F
  exact ⟨fd, F, fn_ok (W := Wk K) rfl F sc_turned rfl (by decide) ck_turned (nd_turned H), F.bindsN fun _ _ _ _ _ _ us hl => match us, hl with | [_], _ => rfl⟩
theorem cal_turned (H : Hd K mg) : Cal P w K mg base (Wk K) 1 "turned" 1 m_turned := by
  obtain ⟨fd, F, G, b⟩ := fg_turned (P := P) (w := w) (base := base) H
  exact ⟨_, fd, _, G, gl_turned H, F.kp, b⟩
theorem nd_is_sure (H : Hd K mg) : needSs ⟨P, w, mg, base, Wk K⟩ 3 ir_is_sure := by
  unfold ir_is_sure
  simp only [needSs, needS, needE, needEs, needF, needI, needO, needG, needGs, needP, and_true, true_and]
  repeat' (with_reducible apply And.intro)
  all_goals first
    | exact addN
    | exact subN
    | exact mulN
    | exact fdivN
    | exact modN
    | exact powN
    | exact eqN
    | exact neN
    | exact ltN
    | exact leN
    | exact gtN
    | exact geN
    | exact inN
    | exact ninN
    | exact isN
    | exact isnotN
    | exact ixN1
    | exact slN1
    | exact lenN
    | exact allN
    | exact anyN
    | exact absN
    | exact max2N
    | exact min2N
    | exact intN
    | exact divmodN
    | exact sumN
    | exact tupleN
    | exact listN
    | exact sortedN
    | exact splitN
    | exact joinN
    | exact scountN
    | exact lcountN
    | exact dsubN
    | exact reprN
    | exact negN
    | exact stpN
    | exact ⟨_, PySem.F.slot_list_pop, PySem.F.type_list_pop, fun _ _ => ⟨_, mt_popAt, mu_pop⟩⟩
    | exact ⟨_, PySem.F.slot_list_extend, PySem.F.type_list_extend, fun X ad => ⟨_, mt_extR, ad.k ▸ mu_ext⟩⟩
    | exact fr_abs H
    | exact fr_all H
    | exact fr_any H
    | exact fr_divmod H
    | exact fr_enumerate H
    | exact fr_int H
    | exact fr_isinstance H
    | exact fr_len H
    | exact fr_list H
    | exact fr_max H
    | exact fr_min H
    | exact fr_range H
    | exact fr_repr H
    | exact fr_sorted H
    | exact fr_str H
    | exact fr_tuple H
    | exact fr_zip H
    | exact ⟨3, by decide, cal_do_fit H⟩
    | exact ⟨1, by decide, cal_turned H⟩
    | exact fldN (k := 6) (show 6 < 17 by decide) rfl injW
    | exact fldN (k := 5) (show 5 < 17 by decide) rfl injW
    | exact fldN (k := 4) (show 4 < 17 by decide) rfl injW
    | exact lrgN (fr_list H) (fr_range H)
    | exact enumN (fr_enumerate H)
theorem fg_is_sure (H : Hd K mg) : ∃ fd, FunD K "is_sure" "is_sure" (defArgs s_is_sure) (defBody s_is_sure) (defScope s_is_sure) [] [] (He.ga K "is_sure") fd ∧ FnG P w K mg base 4 (He.ga K "is_sure") fd P_is_sure (spD (Wk K) 3 m_is_sure) ∧ Binds K fd P_is_sure [] := by
  obtain ⟨fd, F⟩ := H.c.def_ 4 (d := d_is_sure) rfl
  replace F : FunD K "is_sure" "is_sure" (defArgs s_is_sure) (defBody s_is_sure) (defScope s_is_sure) [] [] (He.ga K "is_sure") fd := F
  exact ⟨fd, F, fn_ok (W := Wk K) rfl F sc_is_sure rfl (by decide) ck_is_sure (nd_is_sure H), F.bindsN fun _ _ _ _ _ _ us hl => match us, hl with | [_, _, _], _ => rfl⟩
theorem cal_is_sure (H : Hd K mg) : Cal P w K mg base (Wk K) 4 "is_sure" 3 m_is_sure := by
  obtain ⟨fd, F, G, b⟩ := fg_is_sure (P := P) (w := w) (base := base) H
  exact ⟨_, fd, _, G, gl_is_sure H, F.kp, b⟩
theorem nd_are_alike (H : Hd K mg) : needSs ⟨P, w, mg, base, Wk K⟩ 4 ir_are_alike := by
  unfold ir_are_alike
  simp only [are_alike_c0, are_alike_c1, needSs, needS, needE, needEs, needF, needI, needO, needG, needGs, needP, and_true, true_and]
  repeat' (with_reducible apply And.intro)
  all_goals first
    | exact addN
    | exact subN
    | exact mulN
    | exact fdivN
    | exact modN
    | exact powN
    | exact eqN
    | exact neN
    | exact ltN
    | exact leN
    | exact gtN
    | exact geN
    | exact inN
    | exact ninN
    | exact isN
    | exact isnotN
    | exact ixN1
    | exact slN1
    | exact lenN
    | exact allN
    | exact anyN
    | exact absN
    | exact max2N
    | exact min2N
    | exact intN
    | exact divmodN
    | exact sumN
    | exact tupleN
    | exact listN
    | exact sortedN
    | exact splitN
    | exact joinN
    | exact scountN
    | exact lcountN
    | exact dsubN
    | exact reprN
    | exact negN
    | exact stpN
    | exact ⟨_, PySem.F.slot_list_pop, PySem.F.type_list_pop, fun _ _ => ⟨_, mt_popAt, mu_pop⟩⟩
    | exact ⟨_, PySem.F.slot_list_extend, PySem.F.type_list_extend, fun X ad => ⟨_, mt_extR, ad.k ▸ mu_ext⟩⟩
    | exact fr_abs H
    | exact fr_all H
    | exact fr_any H
    | exact fr_divmod H
    | exact fr_enumerate H
    | exact fr_int H
    | exact fr_isinstance H
    | exact fr_len H
    | exact fr_list H
    | exact fr_max H
    | exact fr_min H
    | exact fr_range H
    | exact fr_repr H
    | exact fr_sorted H
    | exact fr_str H
    | exact fr_tuple H
    | exact fr_zip H
    | exact ⟨4, by decide, cal_is_sure H⟩
    | exact fldN (k := 6) (show 6 < 17 by decide) rfl injW
    | exact fldN (k := 5) (show 5 < 17 by decide) rfl injW
    | exact fldN (k := 4) (show 4 < 17 by decide) rfl injW
    | exact lrgN (fr_list H) (fr_range H)
    | exact enumN (fr_enumerate H)
theorem fg_are_alike (H : Hd K mg) : ∃ fd, FunD K "are_alike" "are_alike" (defArgs s_are_alike) (defBody s_are_alike) (defScope s_are_alike) [] [] (He.ga K "are_alike") fd ∧ FnG P w K mg base 5 (He.ga K "are_alike") fd P_are_alike (spD (Wk K) 2 m_are_alike) ∧ Binds K fd P_are_alike [] := by
  obtain ⟨fd, F⟩ := H.c.def_ 5 (d := d_are_alike) rfl
  replace F : FunD K "are_alike" "are_alike" (defArgs s_are_alike) (defBody s_are_alike) (defScope s_are_alike) [] [] (He.ga K "are_alike") fd := F
  exact ⟨fd, F, fn_ok (W := Wk K) rfl F sc_are_alike rfl (by decide) ck_are_alike (nd_are_alike H), F.bindsN fun _ _ _ _ _ _ us hl => match us, hl with | [_, _], _ => rfl⟩
theorem cal_are_alike (H : Hd K mg) : Cal P w K mg base (Wk K) 5 "are_alike" 2 m_are_alike := by
  obtain ⟨fd, F, G, b⟩ := fg_are_alike (P := P) (w := w) (base := base) H
  exact ⟨_, fd, _, G, gl_are_alike H, F.kp, b⟩
theorem nd_check_book (H : Hd K mg) : needSs ⟨P, w, mg, base, Wk K⟩ 0 ir_check_book := by
  unfold ir_check_book
  simp only [needSs, needS, needE, needEs, needF, needI, needO, needG, needGs, needP, and_true, true_and]
  repeat' (with_reducible apply And.intro)
  all_goals first
    | exact addN
    | exact subN
    | exact mulN
    | exact fdivN
    | exact modN
    | exact powN
    | exact eqN
    | exact neN
    | exact ltN
    | exact leN
    | exact gtN
    | exact geN
    | exact inN
    | exact ninN
    | exact isN
    | exact isnotN
    | exact ixN1
    | exact slN1
    | exact lenN
    | exact allN
    | exact anyN
    | exact absN
    | exact max2N
    | exact min2N
    | exact intN
    | exact divmodN
    | exact sumN
    | exact tupleN
    | exact listN
    | exact sortedN
    | exact splitN
    | exact joinN
    | exact scountN
    | exact lcountN
    | exact dsubN
    | exact reprN
    | exact negN
    | exact stpN
    | exact ⟨_, PySem.F.slot_list_pop, PySem.F.type_list_pop, fun _ _ => ⟨_, mt_popAt, mu_pop⟩⟩
    | exact ⟨_, PySem.F.slot_list_extend, PySem.F.type_list_extend, fun X ad => ⟨_, mt_extR, ad.k ▸ mu_ext⟩⟩
    | exact fr_abs H
    | exact fr_all H
    | exact fr_any H
    | exact fr_divmod H
    | exact fr_enumerate H
    | exact fr_int H
    | exact fr_isinstance H
    | exact fr_len H
    | exact fr_list H
    | exact fr_max H
    | exact fr_min H
    | exact fr_range H
    | exact fr_repr H
    | exact fr_sorted H
    | exact fr_str H
    | exact fr_tuple H
    | exact fr_zip H
    | exact isiN (isiC (fr_isinstance H) (gl_Book H) rfl (ic_Book H))
    | exact fldN (k := 6) (show 6 < 17 by decide) rfl injW
    | exact fldN (k := 5) (show 5 < 17 by decide) rfl injW
    | exact fldN (k := 4) (show 4 < 17 by decide) rfl injW
    | exact lrgN (fr_list H) (fr_range H)
    | exact enumN (fr_enumerate H)
theorem fg_check_book (H : Hd K mg) : ∃ fd, FunD K "check_book" "check_book" (defArgs s_check_book) (defBody s_check_book) (defScope s_check_book) [] [] (He.ga K "check_book") fd ∧ FnG P w K mg base 1 (He.ga K "check_book") fd P_check_book (spD (Wk K) 1 m_check_book) ∧ Binds K fd P_check_book [] := by
  obtain ⟨fd, F⟩ := H.c.def_ 6 (d := d_check_book) rfl
  replace F : FunD K "check_book" "check_book" (defArgs s_check_book) (defBody s_check_book) (defScope s_check_book) [] [] (He.ga K "check_book") fd := F
  exact ⟨fd, F, fn_ok (W := Wk K) rfl F sc_check_book rfl (by decide) ck_check_book (nd_check_book H), F.bindsN fun _ _ _ _ _ _ us hl => match us, hl with | [_], _ => rfl⟩
theorem cal_check_book (H : Hd K mg) : Cal P w K mg base (Wk K) 1 "check_book" 1 m_check_book := by
  obtain ⟨fd, F, G, b⟩ := fg_check_book (P := P) (w := w) (base := base) H
  exact ⟨_, fd, _, G, gl_check_book H, F.kp, b⟩
theorem nd_alike (H : Hd K mg) : needSs ⟨P, w, mg, base, Wk K⟩ 5 ir_alike := by
  unfold ir_alike
  simp only [needSs, needS, needE, needEs, needF, needI, needO, needG, needGs, needP, and_true, true_and]
  repeat' (with_reducible apply And.intro)
  all_goals first
    | exact addN
    | exact subN
    | exact mulN
    | exact fdivN
    | exact modN
    | exact powN
    | exact eqN
    | exact neN
    | exact ltN
    | exact leN
    | exact gtN
    | exact geN
    | exact inN
    | exact ninN
    | exact isN
    | exact isnotN
    | exact ixN1
    | exact slN1
    | exact lenN
    | exact allN
    | exact anyN
    | exact absN
    | exact max2N
    | exact min2N
    | exact intN
    | exact divmodN
    | exact sumN
    | exact tupleN
    | exact listN
    | exact sortedN
    | exact splitN
    | exact joinN
    | exact scountN
    | exact lcountN
    | exact dsubN
    | exact reprN
    | exact negN
    | exact stpN
    | exact ⟨_, PySem.F.slot_list_pop, PySem.F.type_list_pop, fun _ _ => ⟨_, mt_popAt, mu_pop⟩⟩
    | exact ⟨_, PySem.F.slot_list_extend, PySem.F.type_list_extend, fun X ad => ⟨_, mt_extR, ad.k ▸ mu_ext⟩⟩
    | exact fr_abs H
    | exact fr_all H
    | exact fr_any H
    | exact fr_divmod H
    | exact fr_enumerate H
    | exact fr_int H
    | exact fr_isinstance H
    | exact fr_len H
    | exact fr_list H
    | exact fr_max H
    | exact fr_min H
    | exact fr_range H
    | exact fr_repr H
    | exact fr_sorted H
    | exact fr_str H
    | exact fr_tuple H
    | exact fr_zip H
    | exact ⟨5, by decide, cal_are_alike H⟩
    | exact ⟨1, by decide, cal_check_book H⟩
    | exact fldN (k := 6) (show 6 < 17 by decide) rfl injW
    | exact fldN (k := 5) (show 5 < 17 by decide) rfl injW
    | exact fldN (k := 4) (show 4 < 17 by decide) rfl injW
    | exact lrgN (fr_list H) (fr_range H)
    | exact enumN (fr_enumerate H)
theorem fg_alike (H : Hd K mg) : ∃ fd, FunD K "alike" "alike" (defArgs s_alike) (defBody s_alike) (defScope s_alike) [] [] (He.ga K "alike") fd ∧ FnG P w K mg base 6 (He.ga K "alike") fd P_alike (spD (Wk K) 2 m_alike) ∧ Binds K fd P_alike [] := by
  obtain ⟨fd, F⟩ := H.c.def_ 7 (d := d_alike) rfl
  replace F : FunD K "alike" "alike" (defArgs s_alike) (defBody s_alike) (defScope s_alike) [] [] (He.ga K "alike") fd := F
  exact ⟨fd, F, fn_ok (W := Wk K) rfl F sc_alike rfl (by decide) ck_alike (nd_alike H), F.bindsN fun _ _ _ _ _ _ us hl => match us, hl with | [_, _], _ => rfl⟩
theorem cal_alike (H : Hd K mg) : Cal P w K mg base (Wk K) 6 "alike" 2 m_alike := by
  obtain ⟨fd, F, G, b⟩ := fg_alike (P := P) (w := w) (base := base) H
  exact ⟨_, fd, _, G, gl_alike H, F.kp, b⟩
theorem ck0_alike (H : Hd K mg) : CalK P w K mg base (Wk K) 6 "alike" 2 m_alike ["other", "book"] [1, 0] := by
  obtain ⟨fd, F, G, b⟩ := fg_alike (P := P) (w := w) (base := base) H
  refine ⟨_, fd, _, G, gl_alike H, F.kp, fun s ws as hl hp => ?_⟩
  match ws, hl with
  | [_, _], _ => cases hp; exact bindsAny F (fun _ _ _ _ _ _ => rfl) s
theorem nd_is_row (H : Hd K mg) : needSs ⟨P, w, mg, base, Wk K⟩ 0 ir_is_row := by
  unfold ir_is_row
  simp only [is_row_c0, needSs, needS, needE, needEs, needF, needI, needO, needG, needGs, needP, and_true, true_and]
  repeat' (with_reducible apply And.intro)
  all_goals first
    | exact addN
    | exact subN
    | exact mulN
    | exact fdivN
    | exact modN
    | exact powN
    | exact eqN
    | exact neN
    | exact ltN
    | exact leN
    | exact gtN
    | exact geN
    | exact inN
    | exact ninN
    | exact isN
    | exact isnotN
    | exact ixN1
    | exact slN1
    | exact lenN
    | exact allN
    | exact anyN
    | exact absN
    | exact max2N
    | exact min2N
    | exact intN
    | exact divmodN
    | exact sumN
    | exact tupleN
    | exact listN
    | exact sortedN
    | exact splitN
    | exact joinN
    | exact scountN
    | exact lcountN
    | exact dsubN
    | exact reprN
    | exact negN
    | exact stpN
    | exact ⟨_, PySem.F.slot_list_pop, PySem.F.type_list_pop, fun _ _ => ⟨_, mt_popAt, mu_pop⟩⟩
    | exact ⟨_, PySem.F.slot_list_extend, PySem.F.type_list_extend, fun X ad => ⟨_, mt_extR, ad.k ▸ mu_ext⟩⟩
    | exact fr_abs H
    | exact fr_all H
    | exact fr_any H
    | exact fr_divmod H
    | exact fr_enumerate H
    | exact fr_int H
    | exact fr_isinstance H
    | exact fr_len H
    | exact fr_list H
    | exact fr_max H
    | exact fr_min H
    | exact fr_range H
    | exact fr_repr H
    | exact fr_sorted H
    | exact fr_str H
    | exact fr_tuple H
    | exact fr_zip H
    | exact isiN (isiB (T := "str") (by simp) (fr_isinstance H) (fr_str H) (by decide +kernel) (by decide))
    | exact fldN (k := 6) (show 6 < 17 by decide) rfl injW
    | exact fldN (k := 5) (show 5 < 17 by decide) rfl injW
    | exact fldN (k := 4) (show 4 < 17 by decide) rfl injW
    | exact lrgN (fr_list H) (fr_range H)
    | exact enumN (fr_enumerate H)
theorem fg_is_row (H : Hd K mg) : ∃ fd, FunD K "is_row" "is_row" (defArgs s_is_row) (defBody s_is_row) (defScope s_is_row) [] [] (He.ga K "is_row") fd ∧ FnG P w K mg base 1 (He.ga K "is_row") fd P_is_row (spD (Wk K) 2 m_is_row) ∧ Binds K fd P_is_row [] := by
  obtain ⟨fd, F⟩ := H.c.def_ 8 (d := d_is_row) rfl
  replace F : FunD K "is_row" "is_row" (defArgs s_is_row) (defBody s_is_row) (defScope s_is_row) [] [] (He.ga K "is_row") fd := F
  exact ⟨fd, F, fn_ok (W := Wk K) rfl F sc_is_row rfl (by decide) ck_is_row (nd_is_row H), F.bindsN fun _ _ _ _ _ _ us hl => match us, hl with | [_, _], _ => rfl⟩
theorem cal_is_row (H : Hd K mg) : Cal P w K mg base (Wk K) 1 "is_row" 2 m_is_row := by
  obtain ⟨fd, F, G, b⟩ := fg_is_row (P := P) (w := w) (base := base) H
  exact ⟨_, fd, _, G, gl_is_row H, F.kp, b⟩
theorem nd_are_ascending (H : Hd K mg) : needSs ⟨P, w, mg, base, Wk K⟩ 0 ir_are_ascending := by
  unfold ir_are_ascending
  simp only [are_ascending_c0, needSs, needS, needE, needEs, needF, needI, needO, needG, needGs, needP, and_true, true_and]
  repeat' (with_reducible apply And.intro)
  all_goals first
    | exact addN
    | exact subN
    | exact mulN
    | exact fdivN
    | exact modN
    | exact powN
    | exact eqN
    | exact neN
    | exact ltN
    | exact leN
    | exact gtN
    | exact geN
    | exact inN
    | exact ninN
    | exact isN
    | exact isnotN
    | exact ixN1
    | exact slN1
    | exact lenN
    | exact allN
    | exact anyN
    | exact absN
    | exact max2N
    | exact min2N
    | exact intN
    | exact divmodN
    | exact sumN
    | exact tupleN
    | exact listN
    | exact sortedN
    | exact splitN
    | exact joinN
    | exact scountN
    | exact lcountN
    | exact dsubN
    | exact reprN
    | exact negN
    | exact stpN
    | exact ⟨_, PySem.F.slot_list_pop, PySem.F.type_list_pop, fun _ _ => ⟨_, mt_popAt, mu_pop⟩⟩
    | exact ⟨_, PySem.F.slot_list_extend, PySem.F.type_list_extend, fun X ad => ⟨_, mt_extR, ad.k ▸ mu_ext⟩⟩
    | exact fr_abs H
    | exact fr_all H
    | exact fr_any H
    | exact fr_divmod H
    | exact fr_enumerate H
    | exact fr_int H
    | exact fr_isinstance H
    | exact fr_len H
    | exact fr_list H
    | exact fr_max H
    | exact fr_min H
    | exact fr_range H
    | exact fr_repr H
    | exact fr_sorted H
    | exact fr_str H
    | exact fr_tuple H
    | exact fr_zip H
    | exact fldN (k := 6) (show 6 < 17 by decide) rfl injW
    | exact fldN (k := 5) (show 5 < 17 by decide) rfl injW
    | exact fldN (k := 4) (show 4 < 17 by decide) rfl injW
    | exact lrgN (fr_list H) (fr_range H)
    | exact enumN (fr_enumerate H)
theorem fg_are_ascending (H : Hd K mg) : ∃ fd, FunD K "are_ascending" "are_ascending" (defArgs s_are_ascending) (defBody s_are_ascending) (defScope s_are_ascending) [] [] (He.ga K "are_ascending") fd ∧ FnG P w K mg base 1 (He.ga K "are_ascending") fd P_are_ascending (spD (Wk K) 1 m_are_ascending) ∧ Binds K fd P_are_ascending [] := by
  obtain ⟨fd, F⟩ := H.c.def_ 9 (d := d_are_ascending) rfl
  replace F : FunD K "are_ascending" "are_ascending" (defArgs s_are_ascending) (defBody s_are_ascending) (defScope s_are_ascending) [] [] (He.ga K "are_ascending") fd := F
  exact ⟨fd, F, fn_ok (W := Wk K) rfl F sc_are_ascending rfl (by decide) ck_are_ascending (nd_are_ascending H), F.bindsN fun _ _ _ _ _ _ us hl => match us, hl with | [_], _ => rfl⟩
theorem cal_are_ascending (H : Hd K mg) : Cal P w K mg base (Wk K) 1 "are_ascending" 1 m_are_ascending := by
  obtain ⟨fd, F, G, b⟩ := fg_are_ascending (P := P) (w := w) (base := base) H
  exact ⟨_, fd, _, G, gl_are_ascending H, F.kp, b⟩
theorem nd_is_name (H : Hd K mg) : needSs ⟨P, w, mg, base, Wk K⟩ 0 ir_is_name := by
  unfold ir_is_name
  simp only [is_name_c0, needSs, needS, needE, needEs, needF, needI, needO, needG, needGs, needP, and_true, true_and]
  repeat' (with_reducible apply And.intro)
  all_goals first
    | exact addN
    | exact subN
    | exact mulN
    | exact fdivN
    | exact modN
    | exact powN
    | exact eqN
    | exact neN
    | exact ltN
    | exact leN
    | exact gtN
    | exact geN
    | exact inN
    | exact ninN
    | exact isN
    | exact isnotN
    | exact ixN1
    | exact slN1
    | exact lenN
    | exact allN
    | exact anyN
    | exact absN
    | exact max2N
    | exact min2N
    | exact intN
    | exact divmodN
    | exact sumN
    | exact tupleN
    | exact listN
    | exact sortedN
    | exact splitN
    | exact joinN
    | exact scountN
    | exact lcountN
    | exact dsubN
    | exact reprN
    | exact negN
    | exact stpN
    | exact ⟨_, PySem.F.slot_list_pop, PySem.F.type_list_pop, fun _ _ => ⟨_, mt_popAt, mu_pop⟩⟩
    | exact ⟨_, PySem.F.slot_list_extend, PySem.F.type_list_extend, fun X ad => ⟨_, mt_extR, ad.k ▸ mu_ext⟩⟩
    | exact fr_abs H
    | exact fr_all H
    | exact fr_any H
    | exact fr_divmod H
    | exact fr_enumerate H
    | exact fr_int H
    | exact fr_isinstance H
    | exact fr_len H
    | exact fr_list H
    | exact fr_max H
    | exact fr_min H
    | exact fr_range H
    | exact fr_repr H
    | exact fr_sorted H
    | exact fr_str H
    | exact fr_tuple H
    | exact fr_zip H
    | exact co_LETTERS H
    | exact isiN (isiB (T := "str") (by simp) (fr_isinstance H) (fr_str H) (by decide +kernel) (by decide))
    | exact fldN (k := 6) (show 6 < 17 by decide) rfl injW
    | exact fldN (k := 5) (show 5 < 17 by decide) rfl injW
    | exact fldN (k := 4) (show 4 < 17 by decide) rfl injW
    | exact lrgN (fr_list H) (fr_range H)
    | exact enumN (fr_enumerate H)
theorem fg_is_name (H : Hd K mg) : ∃ fd, FunD K "is_name" "is_name" (defArgs s_is_name) (defBody s_is_name) (defScope s_is_name) [] [] (He.ga K "is_name") fd ∧ FnG P w K mg base 1 (He.ga K "is_name") fd P_is_name (spD (Wk K) 1 m_is_name) ∧ Binds K fd P_is_name [] := by
  obtain ⟨fd, F⟩ := H.c.def_ 10 (d := d_is_name) rfl
  replace F : FunD K "is_name" "is_name" (defArgs s_is_name) (defBody s_is_name) (defScope s_is_name) [] [] (He.ga K "is_name") fd := F
  exact ⟨fd, F, fn_ok (W := Wk K) rfl F sc_is_name rfl (by decide) ck_is_name (nd_is_name H), F.bindsN fun _ _ _ _ _ _ us hl => match us, hl with | [_], _ => rfl⟩
theorem cal_is_name (H : Hd K mg) : Cal P w K mg base (Wk K) 1 "is_name" 1 m_is_name := by
  obtain ⟨fd, F, G, b⟩ := fg_is_name (P := P) (w := w) (base := base) H
  exact ⟨_, fd, _, G, gl_is_name H, F.kp, b⟩
theorem nd_are_names (H : Hd K mg) : needSs ⟨P, w, mg, base, Wk K⟩ 1 ir_are_names := by
  unfold ir_are_names
  simp only [are_names_c0, needSs, needS, needE, needEs, needF, needI, needO, needG, needGs, needP, and_true, true_and]
  repeat' (with_reducible apply And.intro)
  all_goals first
    | exact addN
    | exact subN
    | exact mulN
    | exact fdivN
    | exact modN
    | exact powN
    | exact eqN
    | exact neN
    | exact ltN
    | exact leN
    | exact gtN
    | exact geN
    | exact inN
    | exact ninN
    | exact isN
    | exact isnotN
    | exact ixN1
    | exact slN1
    | exact lenN
    | exact allN
    | exact anyN
    | exact absN
    | exact max2N
    | exact min2N
    | exact intN
    | exact divmodN
    | exact sumN
    | exact tupleN
    | exact listN
    | exact sortedN
    | exact splitN
    | exact joinN
    | exact scountN
    | exact lcountN
    | exact dsubN
    | exact reprN
    | exact negN
    | exact stpN
    | exact ⟨_, PySem.F.slot_list_pop, PySem.F.type_list_pop, fun _ _ => ⟨_, mt_popAt, mu_pop⟩⟩
    | exact ⟨_, PySem.F.slot_list_extend, PySem.F.type_list_extend, fun X ad => ⟨_, mt_extR, ad.k ▸ mu_ext⟩⟩
    | exact fr_abs H
    | exact fr_all H
    | exact fr_any H
    | exact fr_divmod H
    | exact fr_enumerate H
    | exact fr_int H
    | exact fr_isinstance H
    | exact fr_len H
    | exact fr_list H
    | exact fr_max H
    | exact fr_min H
    | exact fr_range H
    | exact fr_repr H
    | exact fr_sorted H
    | exact fr_str H
    | exact fr_tuple H
    | exact fr_zip H
    | exact co_MOST_RULES H
    | exact ⟨1, by decide, cal_are_ascending H⟩
    | exact ⟨1, by decide, cal_is_name H⟩
    | exact fldN (k := 6) (show 6 < 17 by decide) rfl injW
    | exact fldN (k := 5) (show 5 < 17 by decide) rfl injW
    | exact fldN (k := 4) (show 4 < 17 by decide) rfl injW
    | exact lrgN (fr_list H) (fr_range H)
    | exact enumN (fr_enumerate H)
theorem fg_are_names (H : Hd K mg) : ∃ fd, FunD K "are_names" "are_names" (defArgs s_are_names) (defBody s_are_names) (defScope s_are_names) [] [] (He.ga K "are_names") fd ∧ FnG P w K mg base 2 (He.ga K "are_names") fd P_are_names (spD (Wk K) 1 m_are_names) ∧ Binds K fd P_are_names [] := by
  obtain ⟨fd, F⟩ := H.c.def_ 11 (d := d_are_names) rfl
  replace F : FunD K "are_names" "are_names" (defArgs s_are_names) (defBody s_are_names) (defScope s_are_names) [] [] (He.ga K "are_names") fd := F
  exact ⟨fd, F, fn_ok (W := Wk K) rfl F sc_are_names rfl (by decide) ck_are_names (nd_are_names H), F.bindsN fun _ _ _ _ _ _ us hl => match us, hl with | [_], _ => rfl⟩
theorem cal_are_names (H : Hd K mg) : Cal P w K mg base (Wk K) 2 "are_names" 1 m_are_names := by
  obtain ⟨fd, F, G, b⟩ := fg_are_names (P := P) (w := w) (base := base) H
  exact ⟨_, fd, _, G, gl_are_names H, F.kp, b⟩
theorem nd_book_in (H : Hd K mg) : needSs ⟨P, w, mg, base, Wk K⟩ 2 ir_book_in := by
  unfold ir_book_in
  simp only [book_in_c0, needSs, needS, needE, needEs, needF, needI, needO, needG, needGs, needP, and_true, true_and]
  repeat' (with_reducible apply And.intro)
  all_goals first
    | exact addN
    | exact subN
    | exact mulN
    | exact fdivN
    | exact modN
    | exact powN
    | exact eqN
    | exact neN
    | exact ltN
    | exact leN
    | exact gtN
    | exact geN
    | exact inN
    | exact ninN
    | exact isN
    | exact isnotN
    | exact ixN1
    | exact slN1
    | exact lenN
    | exact allN
    | exact anyN
    | exact absN
    | exact max2N
    | exact min2N
    | exact intN
    | exact divmodN
    | exact sumN
    | exact tupleN
    | exact listN
    | exact sortedN
    | exact splitN
    | exact joinN
    | exact scountN
    | exact lcountN
    | exact dsubN
    | exact reprN
    | exact negN
    | exact stpN
    | exact ⟨_, PySem.F.slot_list_pop, PySem.F.type_list_pop, fun _ _ => ⟨_, mt_popAt, mu_pop⟩⟩
    | exact ⟨_, PySem.F.slot_list_extend, PySem.F.type_list_extend, fun X ad => ⟨_, mt_extR, ad.k ▸ mu_ext⟩⟩
    | exact fr_abs H
    | exact fr_all H
    | exact fr_any H
    | exact fr_divmod H
    | exact fr_enumerate H
    | exact fr_int H
    | exact fr_isinstance H
    | exact fr_len H
    | exact fr_list H
    | exact fr_max H
    | exact fr_min H
    | exact fr_range H
    | exact fr_repr H
    | exact fr_sorted H
    | exact fr_str H
    | exact fr_tuple H
    | exact fr_zip H
    | exact co_MOST_ROWS H
    | exact ⟨2, by decide, cal_are_names H⟩
    | exact ⟨1, by decide, cal_is_row H⟩
    | exact isiN (isiB (T := "str") (by simp) (fr_isinstance H) (fr_str H) (by decide +kernel) (by decide))
    | exact fldN (k := 6) (show 6 < 17 by decide) rfl injW
    | exact fldN (k := 5) (show 5 < 17 by decide) rfl injW
    | exact fldN (k := 4) (show 4 < 17 by decide) rfl injW
    | exact lrgN (fr_list H) (fr_range H)
    | exact enumN (fr_enumerate H)
theorem fg_book_in (H : Hd K mg) : ∃ fd, FunD K "book_in" "book_in" (defArgs s_book_in) (defBody s_book_in) (defScope s_book_in) [] [] (He.ga K "book_in") fd ∧ FnG P w K mg base 3 (He.ga K "book_in") fd P_book_in (spD (Wk K) 1 m_book_in) ∧ Binds K fd P_book_in [] := by
  obtain ⟨fd, F⟩ := H.c.def_ 12 (d := d_book_in) rfl
  replace F : FunD K "book_in" "book_in" (defArgs s_book_in) (defBody s_book_in) (defScope s_book_in) [] [] (He.ga K "book_in") fd := F
  exact ⟨fd, F, fn_ok (W := Wk K) rfl F sc_book_in rfl (by decide) ck_book_in (nd_book_in H), F.bindsN fun _ _ _ _ _ _ us hl => match us, hl with | [_], _ => rfl⟩
theorem cal_book_in (H : Hd K mg) : Cal P w K mg base (Wk K) 3 "book_in" 1 m_book_in := by
  obtain ⟨fd, F, G, b⟩ := fg_book_in (P := P) (w := w) (base := base) H
  exact ⟨_, fd, _, G, gl_book_in H, F.kp, b⟩
theorem nd_Book_init (H : Hd K mg) : needSs ⟨P, w, mg, base, Wk K⟩ 3 ir_Book_init := by
  unfold ir_Book_init
  simp only [needSs, needS, needE, needEs, needF, needI, needO, needG, needGs, needP, and_true, true_and]
  repeat' (with_reducible apply And.intro)
  all_goals first
    | exact addN
    | exact subN
    | exact mulN
    | exact fdivN
    | exact modN
    | exact powN
    | exact eqN
    | exact neN
    | exact ltN
    | exact leN
    | exact gtN
    | exact geN
    | exact inN
    | exact ninN
    | exact isN
    | exact isnotN
    | exact ixN1
    | exact slN1
    | exact lenN
    | exact allN
    | exact anyN
    | exact absN
    | exact max2N
    | exact min2N
    | exact intN
    | exact divmodN
    | exact sumN
    | exact tupleN
    | exact listN
    | exact sortedN
    | exact splitN
    | exact joinN
    | exact scountN
    | exact lcountN
    | exact dsubN
    | exact reprN
    | exact negN
    | exact stpN
    | exact ⟨_, PySem.F.slot_list_pop, PySem.F.type_list_pop, fun _ _ => ⟨_, mt_popAt, mu_pop⟩⟩
    | exact ⟨_, PySem.F.slot_list_extend, PySem.F.type_list_extend, fun X ad => ⟨_, mt_extR, ad.k ▸ mu_ext⟩⟩
    | exact fr_abs H
    | exact fr_all H
    | exact fr_any H
    | exact fr_divmod H
    | exact fr_enumerate H
    | exact fr_int H
    | exact fr_isinstance H
    | exact fr_len H
    | exact fr_list H
    | exact fr_max H
    | exact fr_min H
    | exact fr_range H
    | exact fr_repr H
    | exact fr_sorted H
    | exact fr_str H
    | exact fr_tuple H
    | exact fr_zip H
    | exact ⟨3, by decide, cal_book_in H⟩
    | exact fldN (k := 6) (show 6 < 17 by decide) rfl injW
    | exact fldN (k := 5) (show 5 < 17 by decide) rfl injW
    | exact fldN (k := 4) (show 4 < 17 by decide) rfl injW
    | exact gfldN (k := 6) (show 6 < 17 by decide) rfl injW (na_lines H)
    | exact gfldN (k := 5) (show 5 < 17 by decide) rfl injW (na_rules H)
    | exact gfldN (k := 4) (show 4 < 17 by decide) rfl injW (na_written H)
    | exact lrgN (fr_list H) (fr_range H)
    | exact enumN (fr_enumerate H)
theorem fg_Book_init (H : Hd K mg) : ∃ fd, FunD K "__init__" "Book.__init__" (defArgs s_Book_init) (defBody s_Book_init) (defScope s_Book_init) [] [] (He.ma K (He.ga K "Book") "__init__") fd ∧ FnG P w K mg base 4 (He.ma K (He.ga K "Book") "__init__") fd P_Book_init (spD (Wk K) 2 m_Book_init) ∧ Binds K fd P_Book_init [] := by
  obtain ⟨fd, F⟩ := H.c.def_ 13 (d := d_Book_init) rfl
  replace F : FunD K "__init__" "Book.__init__" (defArgs s_Book_init) (defBody s_Book_init) (defScope s_Book_init) [] [] (He.ma K (He.ga K "Book") "__init__") fd := F
  exact ⟨fd, F, fn_ok (W := Wk K) rfl F sc_Book_init rfl (by decide) ck_Book_init (nd_Book_init H), F.bindsN fun _ _ _ _ _ _ us hl => match us, hl with | [_, _], _ => rfl⟩
theorem mk_Book (H : Hd K mg) : Mak P w K mg base (Wk K) 4 "Book" 0 1 m_Book_init := by
  obtain ⟨fd, F, G, b⟩ := fg_Book_init (P := P) (w := w) (base := base) H
  exact ⟨_, _, fd, _, G, gl_Book H, He.mkr_ok (H.c.fact 50 rfl), b, rfl, cl_Book H⟩
theorem nd_law_spelled (H : Hd K mg) : needSs ⟨P, w, mg, base, Wk K⟩ 0 ir_law_spelled := by
  unfold ir_law_spelled
  simp only [needSs, needS, needE, needEs, needF, needI, needO, needG, needGs, needP, and_true, true_and]
  repeat' (with_reducible apply And.intro)
  all_goals first
    | exact addN
    | exact subN
    | exact mulN
    | exact fdivN
    | exact modN
    | exact powN
    | exact eqN
    | exact neN
    | exact ltN
    | exact leN
    | exact gtN
    | exact geN
    | exact inN
    | exact ninN
    | exact isN
    | exact isnotN
    | exact ixN1
    | exact slN1
    | exact lenN
    | exact allN
    | exact anyN
    | exact absN
    | exact max2N
    | exact min2N
    | exact intN
    | exact divmodN
    | exact sumN
    | exact tupleN
    | exact listN
    | exact sortedN
    | exact splitN
    | exact joinN
    | exact scountN
    | exact lcountN
    | exact dsubN
    | exact reprN
    | exact negN
    | exact stpN
    | exact ⟨_, PySem.F.slot_list_pop, PySem.F.type_list_pop, fun _ _ => ⟨_, mt_popAt, mu_pop⟩⟩
    | exact ⟨_, PySem.F.slot_list_extend, PySem.F.type_list_extend, fun X ad => ⟨_, mt_extR, ad.k ▸ mu_ext⟩⟩
    | exact fr_abs H
    | exact fr_all H
    | exact fr_any H
    | exact fr_divmod H
    | exact fr_enumerate H
    | exact fr_int H
    | exact fr_isinstance H
    | exact fr_len H
    | exact fr_list H
    | exact fr_max H
    | exact fr_min H
    | exact fr_range H
    | exact fr_repr H
    | exact fr_sorted H
    | exact fr_str H
    | exact fr_tuple H
    | exact fr_zip H
    | exact fldN (k := 6) (show 6 < 17 by decide) rfl injW
    | exact fldN (k := 5) (show 5 < 17 by decide) rfl injW
    | exact fldN (k := 4) (show 4 < 17 by decide) rfl injW
    | exact lrgN (fr_list H) (fr_range H)
    | exact enumN (fr_enumerate H)
theorem fg_law_spelled (H : Hd K mg) : ∃ fd, FunD K "_law_spelled" "_law_spelled" (defArgs s_law_spelled) (defBody s_law_spelled) (defScope s_law_spelled) [] [] (He.ga K "_law_spelled") fd ∧ FnG P w K mg base 1 (He.ga K "_law_spelled") fd P_law_spelled (spD (Wk K) 2 m_law_spelled) ∧ Binds K fd P_law_spelled [] := by
  obtain ⟨fd, F⟩ := H.c.def_ 14 (d := d_law_spelled) rfl
  replace F : FunD K "_law_spelled" "_law_spelled" (defArgs s_law_spelled) (defBody s_law_spelled) (defScope s_law_spelled) [] [] (He.ga K "_law_spelled") fd := F
  exact ⟨fd, F, fn_ok (W := Wk K) rfl F sc_law_spelled rfl (by decide) ck_law_spelled (nd_law_spelled H), F.bindsN fun _ _ _ _ _ _ us hl => match us, hl with | [_, _], _ => rfl⟩
theorem cal_law_spelled (H : Hd K mg) : Cal P w K mg base (Wk K) 1 "_law_spelled" 2 m_law_spelled := by
  obtain ⟨fd, F, G, b⟩ := fg_law_spelled (P := P) (w := w) (base := base) H
  exact ⟨_, fd, _, G, gl_law_spelled H, F.kp, b⟩
theorem nd_needless (H : Hd K mg) : needSs ⟨P, w, mg, base, Wk K⟩ 4 ir_needless := by
  unfold ir_needless
  simp only [needless_c0, needSs, needS, needE, needEs, needF, needI, needO, needG, needGs, needP, and_true, true_and]
  repeat' (with_reducible apply And.intro)
  all_goals first
    | exact addN
    | exact subN
    | exact mulN
    | exact fdivN
    | exact modN
    | exact powN
    | exact eqN
    | exact neN
    | exact ltN
    | exact leN
    | exact gtN
    | exact geN
    | exact inN
    | exact ninN
    | exact isN
    | exact isnotN
    | exact ixN1
    | exact slN1
    | exact lenN
    | exact allN
    | exact anyN
    | exact absN
    | exact max2N
    | exact min2N
    | exact intN
    | exact divmodN
    | exact sumN
    | exact tupleN
    | exact listN
    | exact sortedN
    | exact splitN
    | exact joinN
    | exact scountN
    | exact lcountN
    | exact dsubN
    | exact reprN
    | exact negN
    | exact stpN
    | exact ⟨_, PySem.F.slot_list_pop, PySem.F.type_list_pop, fun _ _ => ⟨_, mt_popAt, mu_pop⟩⟩
    | exact ⟨_, PySem.F.slot_list_extend, PySem.F.type_list_extend, fun X ad => ⟨_, mt_extR, ad.k ▸ mu_ext⟩⟩
    | exact fr_abs H
    | exact fr_all H
    | exact fr_any H
    | exact fr_divmod H
    | exact fr_enumerate H
    | exact fr_int H
    | exact fr_isinstance H
    | exact fr_len H
    | exact fr_list H
    | exact fr_max H
    | exact fr_min H
    | exact fr_range H
    | exact fr_repr H
    | exact fr_sorted H
    | exact fr_str H
    | exact fr_tuple H
    | exact fr_zip H
    | exact ⟨1, by decide, cal_check_book H⟩
    | exact ⟨4, by decide, cal_is_sure H⟩
    | exact fldN (k := 6) (show 6 < 17 by decide) rfl injW
    | exact fldN (k := 5) (show 5 < 17 by decide) rfl injW
    | exact fldN (k := 4) (show 4 < 17 by decide) rfl injW
    | exact lrgN (fr_list H) (fr_range H)
    | exact enumN (fr_enumerate H)
theorem fg_needless (H : Hd K mg) : ∃ fd, FunD K "needless" "needless" (defArgs s_needless) (defBody s_needless) (defScope s_needless) [] [] (He.ga K "needless") fd ∧ FnG P w K mg base 5 (He.ga K "needless") fd P_needless (spD (Wk K) 1 m_needless) ∧ Binds K fd P_needless [] := by
  obtain ⟨fd, F⟩ := H.c.def_ 15 (d := d_needless) rfl
  replace F : FunD K "needless" "needless" (defArgs s_needless) (defBody s_needless) (defScope s_needless) [] [] (He.ga K "needless") fd := F
  exact ⟨fd, F, fn_ok (W := Wk K) rfl F sc_needless rfl (by decide) ck_needless (nd_needless H), F.bindsN fun _ _ _ _ _ _ us hl => match us, hl with | [_], _ => rfl⟩
theorem cal_needless (H : Hd K mg) : Cal P w K mg base (Wk K) 5 "needless" 1 m_needless := by
  obtain ⟨fd, F, G, b⟩ := fg_needless (P := P) (w := w) (base := base) H
  exact ⟨_, fd, _, G, gl_needless H, F.kp, b⟩
theorem ck1_needless (H : Hd K mg) : CalK P w K mg base (Wk K) 5 "needless" 1 m_needless ["book"] [0] := by
  obtain ⟨fd, F, G, b⟩ := fg_needless (P := P) (w := w) (base := base) H
  refine ⟨_, fd, _, G, gl_needless H, F.kp, fun s ws as hl hp => ?_⟩
  match ws, hl with
  | [_], _ => cases hp; exact bindsAny F (fun _ _ _ _ _ _ => rfl) s
theorem nd_law_holds (H : Hd K mg) : needSs ⟨P, w, mg, base, Wk K⟩ 0 ir_law_holds := by
  unfold ir_law_holds
  simp only [law_holds_c0, needSs, needS, needE, needEs, needF, needI, needO, needG, needGs, needP, and_true, true_and]
  repeat' (with_reducible apply And.intro)
  all_goals first
    | exact addN
    | exact subN
    | exact mulN
    | exact fdivN
    | exact modN
    | exact powN
    | exact eqN
    | exact neN
    | exact ltN
    | exact leN
    | exact gtN
    | exact geN
    | exact inN
    | exact ninN
    | exact isN
    | exact isnotN
    | exact ixN1
    | exact slN1
    | exact lenN
    | exact allN
    | exact anyN
    | exact absN
    | exact max2N
    | exact min2N
    | exact intN
    | exact divmodN
    | exact sumN
    | exact tupleN
    | exact listN
    | exact sortedN
    | exact splitN
    | exact joinN
    | exact scountN
    | exact lcountN
    | exact dsubN
    | exact reprN
    | exact negN
    | exact stpN
    | exact ⟨_, PySem.F.slot_list_pop, PySem.F.type_list_pop, fun _ _ => ⟨_, mt_popAt, mu_pop⟩⟩
    | exact ⟨_, PySem.F.slot_list_extend, PySem.F.type_list_extend, fun X ad => ⟨_, mt_extR, ad.k ▸ mu_ext⟩⟩
    | exact fr_abs H
    | exact fr_all H
    | exact fr_any H
    | exact fr_divmod H
    | exact fr_enumerate H
    | exact fr_int H
    | exact fr_isinstance H
    | exact fr_len H
    | exact fr_list H
    | exact fr_max H
    | exact fr_min H
    | exact fr_range H
    | exact fr_repr H
    | exact fr_sorted H
    | exact fr_str H
    | exact fr_tuple H
    | exact fr_zip H
    | exact fldN (k := 6) (show 6 < 17 by decide) rfl injW
    | exact fldN (k := 5) (show 5 < 17 by decide) rfl injW
    | exact fldN (k := 4) (show 4 < 17 by decide) rfl injW
    | exact lrgN (fr_list H) (fr_range H)
    | exact enumN (fr_enumerate H)
theorem fg_law_holds (H : Hd K mg) : ∃ fd, FunD K "_law_holds" "_law_holds" (defArgs s_law_holds) (defBody s_law_holds) (defScope s_law_holds) [] [] (He.ga K "_law_holds") fd ∧ FnG P w K mg base 1 (He.ga K "_law_holds") fd P_law_holds (spD (Wk K) 2 m_law_holds) ∧ Binds K fd P_law_holds [] := by
  obtain ⟨fd, F⟩ := H.c.def_ 16 (d := d_law_holds) rfl
  replace F : FunD K "_law_holds" "_law_holds" (defArgs s_law_holds) (defBody s_law_holds) (defScope s_law_holds) [] [] (He.ga K "_law_holds") fd := F
  exact ⟨fd, F, fn_ok (W := Wk K) rfl F sc_law_holds rfl (by decide) ck_law_holds (nd_law_holds H), F.bindsN fun _ _ _ _ _ _ us hl => match us, hl with | [_, _], _ => rfl⟩
theorem cal_law_holds (H : Hd K mg) : Cal P w K mg base (Wk K) 1 "_law_holds" 2 m_law_holds := by
  obtain ⟨fd, F, G, b⟩ := fg_law_holds (P := P) (w := w) (base := base) H
  exact ⟨_, fd, _, G, gl_law_holds H, F.kp, b⟩
theorem nd_law_all (H : Hd K mg) : needSs ⟨P, w, mg, base, Wk K⟩ 0 ir_law_all := by
  unfold ir_law_all
  simp only [law_all_c0, law_all_b0, law_all_b1, needSs, needS, needE, needEs, needF, needI, needO, needG, needGs, needP, and_true, true_and]
  repeat' (with_reducible apply And.intro)
  all_goals first
    | exact addN
    | exact subN
    | exact mulN
    | exact fdivN
    | exact modN
    | exact powN
    | exact eqN
    | exact neN
    | exact ltN
    | exact leN
    | exact gtN
    | exact geN
    | exact inN
    | exact ninN
    | exact isN
    | exact isnotN
    | exact ixN1
    | exact slN1
    | exact lenN
    | exact allN
    | exact anyN
    | exact absN
    | exact max2N
    | exact min2N
    | exact intN
    | exact divmodN
    | exact sumN
    | exact tupleN
    | exact listN
    | exact sortedN
    | exact splitN
    | exact joinN
    | exact scountN
    | exact lcountN
    | exact dsubN
    | exact reprN
    | exact negN
    | exact stpN
    | exact ⟨_, PySem.F.slot_list_pop, PySem.F.type_list_pop, fun _ _ => ⟨_, mt_popAt, mu_pop⟩⟩
    | exact ⟨_, PySem.F.slot_list_extend, PySem.F.type_list_extend, fun X ad => ⟨_, mt_extR, ad.k ▸ mu_ext⟩⟩
    | exact fr_abs H
    | exact fr_all H
    | exact fr_any H
    | exact fr_divmod H
    | exact fr_enumerate H
    | exact fr_int H
    | exact fr_isinstance H
    | exact fr_len H
    | exact fr_list H
    | exact fr_max H
    | exact fr_min H
    | exact fr_range H
    | exact fr_repr H
    | exact fr_sorted H
    | exact fr_str H
    | exact fr_tuple H
    | exact fr_zip H
    | exact fldN (k := 6) (show 6 < 17 by decide) rfl injW
    | exact fldN (k := 5) (show 5 < 17 by decide) rfl injW
    | exact fldN (k := 4) (show 4 < 17 by decide) rfl injW
    | exact lrgN (fr_list H) (fr_range H)
    | exact enumN (fr_enumerate H)
theorem fg_law_all (H : Hd K mg) : ∃ fd, FunD K "_law_all" "_law_all" (defArgs s_law_all) (defBody s_law_all) (defScope s_law_all) [] [] (He.ga K "_law_all") fd ∧ FnG P w K mg base 1 (He.ga K "_law_all") fd P_law_all (spD (Wk K) 1 m_law_all) ∧ Binds K fd P_law_all [] := by
  obtain ⟨fd, F⟩ := H.c.def_ 17 (d := d_law_all) rfl
  replace F : FunD K "_law_all" "_law_all" (defArgs s_law_all) (defBody s_law_all) (defScope s_law_all) [] [] (He.ga K "_law_all") fd := F
  exact ⟨fd, F, fn_ok (W := Wk K) rfl F sc_law_all rfl (by decide) ck_law_all (nd_law_all H), F.bindsN fun _ _ _ _ _ _ us hl => match us, hl with | [_], _ => rfl⟩
theorem cal_law_all (H : Hd K mg) : Cal P w K mg base (Wk K) 1 "_law_all" 1 m_law_all := by
  obtain ⟨fd, F, G, b⟩ := fg_law_all (P := P) (w := w) (base := base) H
  exact ⟨_, fd, _, G, gl_law_all H, F.kp, b⟩
theorem nd_law_fitting_v1 (H : Hd K mg) : needSs ⟨P, w, mg, base, Wk K⟩ 1 ir_law_fitting_v1 := by
  unfold ir_law_fitting_v1
  simp only [law_fitting_v1_c0, law_fitting_v1_b0, needSs, needS, needE, needEs, needF, needI, needO, needG, needGs, needP, and_true, true_and]
  repeat' (with_reducible apply And.intro)
  all_goals first
    | exact addN
    | exact subN
    | exact mulN
    | exact fdivN
    | exact modN
    | exact powN
    | exact eqN
    | exact neN
    | exact ltN
    | exact leN
    | exact gtN
    | exact geN
    | exact inN
    | exact ninN
    | exact isN
    | exact isnotN
    | exact ixN1
    | exact slN1
    | exact lenN
    | exact allN
    | exact anyN
    | exact absN
    | exact max2N
    | exact min2N
    | exact intN
    | exact divmodN
    | exact sumN
    | exact tupleN
    | exact listN
    | exact sortedN
    | exact splitN
    | exact joinN
    | exact scountN
    | exact lcountN
    | exact dsubN
    | exact reprN
    | exact negN
    | exact stpN
    | exact ⟨_, PySem.F.slot_list_pop, PySem.F.type_list_pop, fun _ _ => ⟨_, mt_popAt, mu_pop⟩⟩
    | exact ⟨_, PySem.F.slot_list_extend, PySem.F.type_list_extend, fun X ad => ⟨_, mt_extR, ad.k ▸ mu_ext⟩⟩
    | exact fr_abs H
    | exact fr_all H
    | exact fr_any H
    | exact fr_divmod H
    | exact fr_enumerate H
    | exact fr_int H
    | exact fr_isinstance H
    | exact fr_len H
    | exact fr_list H
    | exact fr_max H
    | exact fr_min H
    | exact fr_range H
    | exact fr_repr H
    | exact fr_sorted H
    | exact fr_str H
    | exact fr_tuple H
    | exact fr_zip H
    | exact ⟨1, by decide, cal_law_all H⟩
    | exact ⟨1, by decide, cal_law_holds H⟩
    | exact fldN (k := 6) (show 6 < 17 by decide) rfl injW
    | exact fldN (k := 5) (show 5 < 17 by decide) rfl injW
    | exact fldN (k := 4) (show 4 < 17 by decide) rfl injW
    | exact lrgN (fr_list H) (fr_range H)
    | exact enumN (fr_enumerate H)
theorem fg_law_fitting_v1 (H : Hd K mg) : ∃ fd, FunD K "_law_fitting" "_law_fitting" (defArgs s_law_fitting_v1) (defBody s_law_fitting_v1) (defScope s_law_fitting_v1) [] [] (He.ga K "_law_fitting") fd ∧ FnG P w K mg base 2 (He.ga K "_law_fitting") fd P_law_fitting_v1 (spD (Wk K) 2 m_law_fitting_v1) ∧ Binds K fd P_law_fitting_v1 [] := by
  obtain ⟨fd, F⟩ := H.c.def_ 18 (d := d_law_fitting_v1) rfl
  replace F : FunD K "_law_fitting" "_law_fitting" (defArgs s_law_fitting_v1) (defBody s_law_fitting_v1) (defScope s_law_fitting_v1) [] [] (He.ga K "_law_fitting") fd := F
  exact ⟨fd, F, fn_ok (W := Wk K) rfl F sc_law_fitting_v1 rfl (by decide) ck_law_fitting_v1 (nd_law_fitting_v1 H), F.bindsN fun _ _ _ _ _ _ us hl => match us, hl with | [_, _], _ => rfl⟩
theorem cal_law_fitting_v1 (H : Hd K mg) : Cal P w K mg base (Wk K) 2 "_law_fitting" 2 m_law_fitting_v1 := by
  obtain ⟨fd, F, G, b⟩ := fg_law_fitting_v1 (P := P) (w := w) (base := base) H
  exact ⟨_, fd, _, G, gl_law_fitting_v1 H, F.kp, b⟩
theorem nd_law_needless (H : Hd K mg) : needSs ⟨P, w, mg, base, Wk K⟩ 2 ir_law_needless := by
  unfold ir_law_needless
  simp only [law_needless_c0, law_needless_b0, needSs, needS, needE, needEs, needF, needI, needO, needG, needGs, needP, and_true, true_and]
  repeat' (with_reducible apply And.intro)
  all_goals first
    | exact addN
    | exact subN
    | exact mulN
    | exact fdivN
    | exact modN
    | exact powN
    | exact eqN
    | exact neN
    | exact ltN
    | exact leN
    | exact gtN
    | exact geN
    | exact inN
    | exact ninN
    | exact isN
    | exact isnotN
    | exact ixN1
    | exact slN1
    | exact lenN
    | exact allN
    | exact anyN
    | exact absN
    | exact max2N
    | exact min2N
    | exact intN
    | exact divmodN
    | exact sumN
    | exact tupleN
    | exact listN
    | exact sortedN
    | exact splitN
    | exact joinN
    | exact scountN
    | exact lcountN
    | exact dsubN
    | exact reprN
    | exact negN
    | exact stpN
    | exact ⟨_, PySem.F.slot_list_pop, PySem.F.type_list_pop, fun _ _ => ⟨_, mt_popAt, mu_pop⟩⟩
    | exact ⟨_, PySem.F.slot_list_extend, PySem.F.type_list_extend, fun X ad => ⟨_, mt_extR, ad.k ▸ mu_ext⟩⟩
    | exact fr_abs H
    | exact fr_all H
    | exact fr_any H
    | exact fr_divmod H
    | exact fr_enumerate H
    | exact fr_int H
    | exact fr_isinstance H
    | exact fr_len H
    | exact fr_list H
    | exact fr_max H
    | exact fr_min H
    | exact fr_range H
    | exact fr_repr H
    | exact fr_sorted H
    | exact fr_str H
    | exact fr_tuple H
    | exact fr_zip H
    | exact ⟨2, by decide, cal_law_fitting_v1 H⟩
    | exact ⟨1, by decide, cal_law_holds H⟩
    | exact fldN (k := 6) (show 6 < 17 by decide) rfl injW
    | exact fldN (k := 5) (show 5 < 17 by decide) rfl injW
    | exact fldN (k := 4) (show 4 < 17 by decide) rfl injW
    | exact lrgN (fr_list H) (fr_range H)
    | exact enumN (fr_enumerate H)
theorem fg_law_needless (H : Hd K mg) : ∃ fd, FunD K "_law_needless" "_law_needless" (defArgs s_law_needless) (defBody s_law_needless) (defScope s_law_needless) [] [] (He.ga K "_law_needless") fd ∧ FnG P w K mg base 3 (He.ga K "_law_needless") fd P_law_needless (spD (Wk K) 2 m_law_needless) ∧ Binds K fd P_law_needless [] := by
  obtain ⟨fd, F⟩ := H.c.def_ 19 (d := d_law_needless) rfl
  replace F : FunD K "_law_needless" "_law_needless" (defArgs s_law_needless) (defBody s_law_needless) (defScope s_law_needless) [] [] (He.ga K "_law_needless") fd := F
  exact ⟨fd, F, fn_ok (W := Wk K) rfl F sc_law_needless rfl (by decide) ck_law_needless (nd_law_needless H), F.bindsN fun _ _ _ _ _ _ us hl => match us, hl with | [_, _], _ => rfl⟩
theorem cal_law_needless (H : Hd K mg) : Cal P w K mg base (Wk K) 3 "_law_needless" 2 m_law_needless := by
  obtain ⟨fd, F, G, b⟩ := fg_law_needless (P := P) (w := w) (base := base) H
  exact ⟨_, fd, _, G, gl_law_needless H, F.kp, b⟩
theorem nd_law_draw (H : Hd K mg) : needSs ⟨P, w, mg, base, Wk K⟩ 0 ir_law_draw := by
  unfold ir_law_draw
  simp only [needSs, needS, needE, needEs, needF, needI, needO, needG, needGs, needP, and_true, true_and]
  repeat' (with_reducible apply And.intro)
  all_goals first
    | exact addN
    | exact subN
    | exact mulN
    | exact fdivN
    | exact modN
    | exact powN
    | exact eqN
    | exact neN
    | exact ltN
    | exact leN
    | exact gtN
    | exact geN
    | exact inN
    | exact ninN
    | exact isN
    | exact isnotN
    | exact ixN1
    | exact slN1
    | exact lenN
    | exact allN
    | exact anyN
    | exact absN
    | exact max2N
    | exact min2N
    | exact intN
    | exact divmodN
    | exact sumN
    | exact tupleN
    | exact listN
    | exact sortedN
    | exact splitN
    | exact joinN
    | exact scountN
    | exact lcountN
    | exact dsubN
    | exact reprN
    | exact negN
    | exact stpN
    | exact ⟨_, PySem.F.slot_list_pop, PySem.F.type_list_pop, fun _ _ => ⟨_, mt_popAt, mu_pop⟩⟩
    | exact ⟨_, PySem.F.slot_list_extend, PySem.F.type_list_extend, fun X ad => ⟨_, mt_extR, ad.k ▸ mu_ext⟩⟩
    | exact fr_abs H
    | exact fr_all H
    | exact fr_any H
    | exact fr_divmod H
    | exact fr_enumerate H
    | exact fr_int H
    | exact fr_isinstance H
    | exact fr_len H
    | exact fr_list H
    | exact fr_max H
    | exact fr_min H
    | exact fr_range H
    | exact fr_repr H
    | exact fr_sorted H
    | exact fr_str H
    | exact fr_tuple H
    | exact fr_zip H
    | exact fldN (k := 6) (show 6 < 17 by decide) rfl injW
    | exact fldN (k := 5) (show 5 < 17 by decide) rfl injW
    | exact fldN (k := 4) (show 4 < 17 by decide) rfl injW
    | exact lrgN (fr_list H) (fr_range H)
    | exact enumN (fr_enumerate H)
theorem fg_law_draw (H : Hd K mg) : ∃ fd, FunD K "_law_draw" "_law_draw" (defArgs s_law_draw) (defBody s_law_draw) (defScope s_law_draw) [] [] (He.ga K "_law_draw") fd ∧ FnG P w K mg base 1 (He.ga K "_law_draw") fd P_law_draw (spD (Wk K) 2 m_law_draw) ∧ Binds K fd P_law_draw [] := by
  obtain ⟨fd, F⟩ := H.c.def_ 20 (d := d_law_draw) rfl
  replace F : FunD K "_law_draw" "_law_draw" (defArgs s_law_draw) (defBody s_law_draw) (defScope s_law_draw) [] [] (He.ga K "_law_draw") fd := F
  exact ⟨fd, F, fn_ok (W := Wk K) rfl F sc_law_draw rfl (by decide) ck_law_draw (nd_law_draw H), F.bindsN fun _ _ _ _ _ _ us hl => match us, hl with | [_, _], _ => rfl⟩
theorem cal_law_draw (H : Hd K mg) : Cal P w K mg base (Wk K) 1 "_law_draw" 2 m_law_draw := by
  obtain ⟨fd, F, G, b⟩ := fg_law_draw (P := P) (w := w) (base := base) H
  exact ⟨_, fd, _, G, gl_law_draw H, F.kp, b⟩
theorem nd_law_labels (H : Hd K mg) : needSs ⟨P, w, mg, base, Wk K⟩ 1 ir_law_labels := by
  unfold ir_law_labels
  simp only [law_labels_c0, needSs, needS, needE, needEs, needF, needI, needO, needG, needGs, needP, and_true, true_and]
  repeat' (with_reducible apply And.intro)
  all_goals first
    | exact addN
    | exact subN
    | exact mulN
    | exact fdivN
    | exact modN
    | exact powN
    | exact eqN
    | exact neN
    | exact ltN
    | exact leN
    | exact gtN
    | exact geN
    | exact inN
    | exact ninN
    | exact isN
    | exact isnotN
    | exact ixN1
    | exact slN1
    | exact lenN
    | exact allN
    | exact anyN
    | exact absN
    | exact max2N
    | exact min2N
    | exact intN
    | exact divmodN
    | exact sumN
    | exact tupleN
    | exact listN
    | exact sortedN
    | exact splitN
    | exact joinN
    | exact scountN
    | exact lcountN
    | exact dsubN
    | exact reprN
    | exact negN
    | exact stpN
    | exact ⟨_, PySem.F.slot_list_pop, PySem.F.type_list_pop, fun _ _ => ⟨_, mt_popAt, mu_pop⟩⟩
    | exact ⟨_, PySem.F.slot_list_extend, PySem.F.type_list_extend, fun X ad => ⟨_, mt_extR, ad.k ▸ mu_ext⟩⟩
    | exact fr_abs H
    | exact fr_all H
    | exact fr_any H
    | exact fr_divmod H
    | exact fr_enumerate H
    | exact fr_int H
    | exact fr_isinstance H
    | exact fr_len H
    | exact fr_list H
    | exact fr_max H
    | exact fr_min H
    | exact fr_range H
    | exact fr_repr H
    | exact fr_sorted H
    | exact fr_str H
    | exact fr_tuple H
    | exact fr_zip H
    | exact ⟨1, by decide, cal_law_draw H⟩
    | exact fldN (k := 6) (show 6 < 17 by decide) rfl injW
    | exact fldN (k := 5) (show 5 < 17 by decide) rfl injW
    | exact fldN (k := 4) (show 4 < 17 by decide) rfl injW
    | exact lrgN (fr_list H) (fr_range H)
    | exact enumN (fr_enumerate H)
theorem fg_law_labels (H : Hd K mg) : ∃ fd, FunD K "_law_labels" "_law_labels" (defArgs s_law_labels) (defBody s_law_labels) (defScope s_law_labels) [] [] (He.ga K "_law_labels") fd ∧ FnG P w K mg base 2 (He.ga K "_law_labels") fd P_law_labels (spD (Wk K) 2 m_law_labels) ∧ Binds K fd P_law_labels [] := by
  obtain ⟨fd, F⟩ := H.c.def_ 21 (d := d_law_labels) rfl
  replace F : FunD K "_law_labels" "_law_labels" (defArgs s_law_labels) (defBody s_law_labels) (defScope s_law_labels) [] [] (He.ga K "_law_labels") fd := F
  exact ⟨fd, F, fn_ok (W := Wk K) rfl F sc_law_labels rfl (by decide) ck_law_labels (nd_law_labels H), F.bindsN fun _ _ _ _ _ _ us hl => match us, hl with | [_, _], _ => rfl⟩
theorem cal_law_labels (H : Hd K mg) : Cal P w K mg base (Wk K) 2 "_law_labels" 2 m_law_labels := by
  obtain ⟨fd, F, G, b⟩ := fg_law_labels (P := P) (w := w) (base := base) H
  exact ⟨_, fd, _, G, gl_law_labels H, F.kp, b⟩
theorem nd_law_signs (H : Hd K mg) : needSs ⟨P, w, mg, base, Wk K⟩ 1 ir_law_signs := by
  unfold ir_law_signs
  simp only [law_signs_c0, needSs, needS, needE, needEs, needF, needI, needO, needG, needGs, needP, and_true, true_and]
  repeat' (with_reducible apply And.intro)
  all_goals first
    | exact addN
    | exact subN
    | exact mulN
    | exact fdivN
    | exact modN
    | exact powN
    | exact eqN
    | exact neN
    | exact ltN
    | exact leN
    | exact gtN
    | exact geN
    | exact inN
    | exact ninN
    | exact isN
    | exact isnotN
    | exact ixN1
    | exact slN1
    | exact lenN
    | exact allN
    | exact anyN
    | exact absN
    | exact max2N
    | exact min2N
    | exact intN
    | exact divmodN
    | exact sumN
    | exact tupleN
    | exact listN
    | exact sortedN
    | exact splitN
    | exact joinN
    | exact scountN
    | exact lcountN
    | exact dsubN
    | exact reprN
    | exact negN
    | exact stpN
    | exact ⟨_, PySem.F.slot_list_pop, PySem.F.type_list_pop, fun _ _ => ⟨_, mt_popAt, mu_pop⟩⟩
    | exact ⟨_, PySem.F.slot_list_extend, PySem.F.type_list_extend, fun X ad => ⟨_, mt_extR, ad.k ▸ mu_ext⟩⟩
    | exact fr_abs H
    | exact fr_all H
    | exact fr_any H
    | exact fr_divmod H
    | exact fr_enumerate H
    | exact fr_int H
    | exact fr_isinstance H
    | exact fr_len H
    | exact fr_list H
    | exact fr_max H
    | exact fr_min H
    | exact fr_range H
    | exact fr_repr H
    | exact fr_sorted H
    | exact fr_str H
    | exact fr_tuple H
    | exact fr_zip H
    | exact ⟨1, by decide, cal_law_draw H⟩
    | exact fldN (k := 6) (show 6 < 17 by decide) rfl injW
    | exact fldN (k := 5) (show 5 < 17 by decide) rfl injW
    | exact fldN (k := 4) (show 4 < 17 by decide) rfl injW
    | exact lrgN (fr_list H) (fr_range H)
    | exact enumN (fr_enumerate H)
theorem fg_law_signs (H : Hd K mg) : ∃ fd, FunD K "_law_signs" "_law_signs" (defArgs s_law_signs) (defBody s_law_signs) (defScope s_law_signs) [] [] (He.ga K "_law_signs") fd ∧ FnG P w K mg base 2 (He.ga K "_law_signs") fd P_law_signs (spD (Wk K) 2 m_law_signs) ∧ Binds K fd P_law_signs [] := by
  obtain ⟨fd, F⟩ := H.c.def_ 22 (d := d_law_signs) rfl
  replace F : FunD K "_law_signs" "_law_signs" (defArgs s_law_signs) (defBody s_law_signs) (defScope s_law_signs) [] [] (He.ga K "_law_signs") fd := F
  exact ⟨fd, F, fn_ok (W := Wk K) rfl F sc_law_signs rfl (by decide) ck_law_signs (nd_law_signs H), F.bindsN fun _ _ _ _ _ _ us hl => match us, hl with | [_, _], _ => rfl⟩
theorem cal_law_signs (H : Hd K mg) : Cal P w K mg base (Wk K) 2 "_law_signs" 2 m_law_signs := by
  obtain ⟨fd, F, G, b⟩ := fg_law_signs (P := P) (w := w) (base := base) H
  exact ⟨_, fd, _, G, gl_law_signs H, F.kp, b⟩
theorem nd_law_flipped (H : Hd K mg) : needSs ⟨P, w, mg, base, Wk K⟩ 0 ir_law_flipped := by
  unfold ir_law_flipped
  simp only [law_flipped_c0, needSs, needS, needE, needEs, needF, needI, needO, needG, needGs, needP, and_true, true_and]
  repeat' (with_reducible apply And.intro)
  all_goals first
    | exact addN
    | exact subN
    | exact mulN
    | exact fdivN
    | exact modN
    | exact powN
    | exact eqN
    | exact neN
    | exact ltN
    | exact leN
    | exact gtN
    | exact geN
    | exact inN
    | exact ninN
    | exact isN
    | exact isnotN
    | exact ixN1
    | exact slN1
    | exact lenN
    | exact allN
    | exact anyN
    | exact absN
    | exact max2N
    | exact min2N
    | exact intN
    | exact divmodN
    | exact sumN
    | exact tupleN
    | exact listN
    | exact sortedN
    | exact splitN
    | exact joinN
    | exact scountN
    | exact lcountN
    | exact dsubN
    | exact reprN
    | exact negN
    | exact stpN
    | exact ⟨_, PySem.F.slot_list_pop, PySem.F.type_list_pop, fun _ _ => ⟨_, mt_popAt, mu_pop⟩⟩
    | exact ⟨_, PySem.F.slot_list_extend, PySem.F.type_list_extend, fun X ad => ⟨_, mt_extR, ad.k ▸ mu_ext⟩⟩
    | exact fr_abs H
    | exact fr_all H
    | exact fr_any H
    | exact fr_divmod H
    | exact fr_enumerate H
    | exact fr_int H
    | exact fr_isinstance H
    | exact fr_len H
    | exact fr_list H
    | exact fr_max H
    | exact fr_min H
    | exact fr_range H
    | exact fr_repr H
    | exact fr_sorted H
    | exact fr_str H
    | exact fr_tuple H
    | exact fr_zip H
    | exact fldN (k := 6) (show 6 < 17 by decide) rfl injW
    | exact fldN (k := 5) (show 5 < 17 by decide) rfl injW
    | exact fldN (k := 4) (show 4 < 17 by decide) rfl injW
    | exact lrgN (fr_list H) (fr_range H)
    | exact enumN (fr_enumerate H)
theorem fg_law_flipped (H : Hd K mg) : ∃ fd, FunD K "_law_flipped" "_law_flipped" (defArgs s_law_flipped) (defBody s_law_flipped) (defScope s_law_flipped) [] [] (He.ga K "_law_flipped") fd ∧ FnG P w K mg base 1 (He.ga K "_law_flipped") fd P_law_flipped (spD (Wk K) 1 m_law_flipped) ∧ Binds K fd P_law_flipped [] := by
  obtain ⟨fd, F⟩ := H.c.def_ 23 (d := d_law_flipped) rfl
  replace F : FunD K "_law_flipped" "_law_flipped" (defArgs s_law_flipped) (defBody s_law_flipped) (defScope s_law_flipped) [] [] (He.ga K "_law_flipped") fd := F
  exact ⟨fd, F, fn_ok (W := Wk K) rfl F sc_law_flipped rfl (by decide) ck_law_flipped (nd_law_flipped H), F.bindsN fun _ _ _ _ _ _ us hl => match us, hl with | [_], _ => rfl⟩
theorem cal_law_flipped (H : Hd K mg) : Cal P w K mg base (Wk K) 1 "_law_flipped" 1 m_law_flipped := by
  obtain ⟨fd, F, G, b⟩ := fg_law_flipped (P := P) (w := w) (base := base) H
  exact ⟨_, fd, _, G, gl_law_flipped H, F.kp, b⟩
theorem nd_law_rows (H : Hd K mg) : needSs ⟨P, w, mg, base, Wk K⟩ 2 ir_law_rows := by
  unfold ir_law_rows
  simp only [law_rows_b0, law_rows_b1, needSs, needS, needE, needEs, needF, needI, needO, needG, needGs, needP, and_true, true_and]
  repeat' (with_reducible apply And.intro)
  all_goals first
    | exact addN
    | exact subN
    | exact mulN
    | exact fdivN
    | exact modN
    | exact powN
    | exact eqN
    | exact neN
    | exact ltN
    | exact leN
    | exact gtN
    | exact geN
    | exact inN
    | exact ninN
    | exact isN
    | exact isnotN
    | exact ixN1
    | exact slN1
    | exact lenN
    | exact allN
    | exact anyN
    | exact absN
    | exact max2N
    | exact min2N
    | exact intN
    | exact divmodN
    | exact sumN
    | exact tupleN
    | exact listN
    | exact sortedN
    | exact splitN
    | exact joinN
    | exact scountN
    | exact lcountN
    | exact dsubN
    | exact reprN
    | exact negN
    | exact stpN
    | exact ⟨_, PySem.F.slot_list_pop, PySem.F.type_list_pop, fun _ _ => ⟨_, mt_popAt, mu_pop⟩⟩
    | exact ⟨_, PySem.F.slot_list_extend, PySem.F.type_list_extend, fun X ad => ⟨_, mt_extR, ad.k ▸ mu_ext⟩⟩
    | exact fr_abs H
    | exact fr_all H
    | exact fr_any H
    | exact fr_divmod H
    | exact fr_enumerate H
    | exact fr_int H
    | exact fr_isinstance H
    | exact fr_len H
    | exact fr_list H
    | exact fr_max H
    | exact fr_min H
    | exact fr_range H
    | exact fr_repr H
    | exact fr_sorted H
    | exact fr_str H
    | exact fr_tuple H
    | exact fr_zip H
    | exact ⟨1, by decide, cal_law_draw H⟩
    | exact ⟨1, by decide, cal_law_flipped H⟩
    | exact ⟨1, by decide, cal_law_holds H⟩
    | exact ⟨2, by decide, cal_law_signs H⟩
    | exact fldN (k := 6) (show 6 < 17 by decide) rfl injW
    | exact fldN (k := 5) (show 5 < 17 by decide) rfl injW
    | exact fldN (k := 4) (show 4 < 17 by decide) rfl injW
    | exact lrgN (fr_list H) (fr_range H)
    | exact enumN (fr_enumerate H)
theorem fg_law_rows (H : Hd K mg) : ∃ fd, FunD K "_law_rows" "_law_rows" (defArgs s_law_rows) (defBody s_law_rows) (defScope s_law_rows) [] [] (He.ga K "_law_rows") fd ∧ FnG P w K mg base 3 (He.ga K "_law_rows") fd P_law_rows (spD (Wk K) 4 m_law_rows) ∧ Binds K fd P_law_rows [] := by
  obtain ⟨fd, F⟩ := H.c.def_ 24 (d := d_law_rows) rfl
  replace F : FunD K "_law_rows" "_law_rows" (defArgs s_law_rows) (defBody s_law_rows) (defScope s_law_rows) [] [] (He.ga K "_law_rows") fd := F
  exact ⟨fd, F, fn_ok (W := Wk K) rfl F sc_law_rows rfl (by decide) ck_law_rows (nd_law_rows H), F.bindsN fun _ _ _ _ _ _ us hl => match us, hl with | [_, _, _, _], _ => rfl⟩
theorem cal_law_rows (H : Hd K mg) : Cal P w K mg base (Wk K) 3 "_law_rows" 4 m_law_rows := by
  obtain ⟨fd, F, G, b⟩ := fg_law_rows (P := P) (w := w) (base := base) H
  exact ⟨_, fd, _, G, gl_law_rows H, F.kp, b⟩
theorem nd_law_book (H : Hd K mg) : needSs ⟨P, w, mg, base, Wk K⟩ 3 ir_law_book := by
  unfold ir_law_book
  simp only [needSs, needS, needE, needEs, needF, needI, needO, needG, needGs, needP, and_true, true_and]
  repeat' (with_reducible apply And.intro)
  all_goals first
    | exact addN
    | exact subN
    | exact mulN
    | exact fdivN
    | exact modN
    | exact powN
    | exact eqN
    | exact neN
    | exact ltN
    | exact leN
    | exact gtN
    | exact geN
    | exact inN
    | exact ninN
    | exact isN
    | exact isnotN
    | exact ixN1
    | exact slN1
    | exact lenN
    | exact allN
    | exact anyN
    | exact absN
    | exact max2N
    | exact min2N
    | exact intN
    | exact divmodN
    | exact sumN
    | exact tupleN
    | exact listN
    | exact sortedN
    | exact splitN
    | exact joinN
    | exact scountN
    | exact lcountN
    | exact dsubN
    | exact reprN
    | exact negN
    | exact stpN
    | exact ⟨_, PySem.F.slot_list_pop, PySem.F.type_list_pop, fun _ _ => ⟨_, mt_popAt, mu_pop⟩⟩
    | exact ⟨_, PySem.F.slot_list_extend, PySem.F.type_list_extend, fun X ad => ⟨_, mt_extR, ad.k ▸ mu_ext⟩⟩
    | exact fr_abs H
    | exact fr_all H
    | exact fr_any H
    | exact fr_divmod H
    | exact fr_enumerate H
    | exact fr_int H
    | exact fr_isinstance H
    | exact fr_len H
    | exact fr_list H
    | exact fr_max H
    | exact fr_min H
    | exact fr_range H
    | exact fr_repr H
    | exact fr_sorted H
    | exact fr_str H
    | exact fr_tuple H
    | exact fr_zip H
    | exact ⟨1, by decide, cal_law_draw H⟩
    | exact ⟨2, by decide, cal_law_labels H⟩
    | exact ⟨3, by decide, cal_law_rows H⟩
    | exact fldN (k := 6) (show 6 < 17 by decide) rfl injW
    | exact fldN (k := 5) (show 5 < 17 by decide) rfl injW
    | exact fldN (k := 4) (show 4 < 17 by decide) rfl injW
    | exact lrgN (fr_list H) (fr_range H)
    | exact enumN (fr_enumerate H)
theorem fg_law_book (H : Hd K mg) : ∃ fd, FunD K "_law_book" "_law_book" (defArgs s_law_book) (defBody s_law_book) (defScope s_law_book) [] [] (He.ga K "_law_book") fd ∧ FnG P w K mg base 4 (He.ga K "_law_book") fd P_law_book (spD (Wk K) 4 m_law_book) ∧ Binds K fd P_law_book [] := by
  obtain ⟨fd, F⟩ := H.c.def_ 25 (d := d_law_book) rfl
  replace F : FunD K "_law_book" "_law_book" (defArgs s_law_book) (defBody s_law_book) (defScope s_law_book) [] [] (He.ga K "_law_book") fd := F
  exact ⟨fd, F, fn_ok (W := Wk K) rfl F sc_law_book rfl (by decide) ck_law_book (nd_law_book H), F.bindsN fun _ _ _ _ _ _ us hl => match us, hl with | [_, _, _, _], _ => rfl⟩
theorem cal_law_book (H : Hd K mg) : Cal P w K mg base (Wk K) 4 "_law_book" 4 m_law_book := by
  obtain ⟨fd, F, G, b⟩ := fg_law_book (P := P) (w := w) (base := base) H
  exact ⟨_, fd, _, G, gl_law_book H, F.kp, b⟩
theorem nd_law_right_v14 (H : Hd K mg) : needSs ⟨P, w, mg, base, Wk K⟩ 6 ir_law_right_v14 := by
  unfold ir_law_right_v14
  simp only [law_right_v14_b0, law_right_v14_b1, law_right_v14_c0, law_right_v14_c1, needSs, needS, needE, needEs, needF, needI, needO, needG, needGs, needP, and_true, true_and]
  repeat' (with_reducible apply And.intro)
  all_goals first
    | exact addN
    | exact subN
    | exact mulN
    | exact fdivN
    | exact modN
    | exact powN
    | exact eqN
    | exact neN
    | exact ltN
    | exact leN
    | exact gtN
    | exact geN
    | exact inN
    | exact ninN
    | exact isN
    | exact isnotN
    | exact ixN1
    | exact slN1
    | exact lenN
    | exact allN
    | exact anyN
    | exact absN
    | exact max2N
    | exact min2N
    | exact intN
    | exact divmodN
    | exact sumN
    | exact tupleN
    | exact listN
    | exact sortedN
    | exact splitN
    | exact joinN
    | exact scountN
    | exact lcountN
    | exact dsubN
    | exact reprN
    | exact negN
    | exact stpN
    | exact ⟨_, PySem.F.slot_list_pop, PySem.F.type_list_pop, fun _ _ => ⟨_, mt_popAt, mu_pop⟩⟩
    | exact ⟨_, PySem.F.slot_list_extend, PySem.F.type_list_extend, fun X ad => ⟨_, mt_extR, ad.k ▸ mu_ext⟩⟩
    | exact fr_abs H
    | exact fr_all H
    | exact fr_any H
    | exact fr_divmod H
    | exact fr_enumerate H
    | exact fr_int H
    | exact fr_isinstance H
    | exact fr_len H
    | exact fr_list H
    | exact fr_max H
    | exact fr_min H
    | exact fr_range H
    | exact fr_repr H
    | exact fr_sorted H
    | exact fr_str H
    | exact fr_tuple H
    | exact fr_zip H
    | exact ⟨4, by decide, cal_law_book H⟩
    | exact ⟨2, by decide, cal_law_fitting_v1 H⟩
    | exact ⟨2, by decide, cal_law_labels H⟩
    | exact ⟨3, by decide, cal_law_needless H⟩
    | exact ⟨2, by decide, cal_law_signs H⟩
    | exact ⟨1, by decide, cal_law_spelled H⟩
    | exact ⟨6, by decide, cal_alike H⟩
    | exact ⟨5, by decide, cal_needless H⟩
    | exact mkN (k := 4) (by decide) (mk_Book H)
    | exact callKN (k := 6) (by decide) (ck0_alike H)
    | exact callKN (k := 5) (by decide) (ck1_needless H)
    | exact fldN (k := 6) (show 6 < 17 by decide) rfl injW
    | exact fldN (k := 5) (show 5 < 17 by decide) rfl injW
    | exact fldN (k := 4) (show 4 < 17 by decide) rfl injW
    | exact lrgN (fr_list H) (fr_range H)
    | exact enumN (fr_enumerate H)
theorem fg_law_right_v14 (H : Hd K mg) : ∃ fd, FunD K "_law_right" "_law_right" (defArgs s_law_right_v14) (defBody s_law_right_v14) (defScope s_law_right_v14) [] [] (He.ga K "_law_right") fd ∧ FnG P w K mg base 7 (He.ga K "_law_right") fd P_law_right_v14 (spD (Wk K) 1 m_law_right_v14) ∧ Binds K fd P_law_right_v14 [] := by
  obtain ⟨fd, F⟩ := H.c.def_ 26 (d := d_law_right_v14) rfl
  replace F : FunD K "_law_right" "_law_right" (defArgs s_law_right_v14) (defBody s_law_right_v14) (defScope s_law_right_v14) [] [] (He.ga K "_law_right") fd := F
  exact ⟨fd, F, fn_ok (W := Wk K) rfl F sc_law_right_v14 rfl (by decide) ck_law_right_v14 (nd_law_right_v14 H), F.bindsN fun _ _ _ _ _ _ us hl => match us, hl with | [_], _ => rfl⟩
theorem cal_law_right_v14 (H : Hd K mg) : Cal P w K mg base (Wk K) 7 "_law_right" 1 m_law_right_v14 := by
  obtain ⟨fd, F, G, b⟩ := fg_law_right_v14 (P := P) (w := w) (base := base) H
  exact ⟨_, fd, _, G, gl_law_right_v14 H, F.kp, b⟩
theorem nd_law_purse (H : Hd K mg) : needSs ⟨P, w, mg, base, Wk K⟩ 0 ir_law_purse := by
  unfold ir_law_purse
  simp only [law_purse_b0, needSs, needS, needE, needEs, needF, needI, needO, needG, needGs, needP, and_true, true_and]
  repeat' (with_reducible apply And.intro)
  all_goals first
    | exact addN
    | exact subN
    | exact mulN
    | exact fdivN
    | exact modN
    | exact powN
    | exact eqN
    | exact neN
    | exact ltN
    | exact leN
    | exact gtN
    | exact geN
    | exact inN
    | exact ninN
    | exact isN
    | exact isnotN
    | exact ixN1
    | exact slN1
    | exact lenN
    | exact allN
    | exact anyN
    | exact absN
    | exact max2N
    | exact min2N
    | exact intN
    | exact divmodN
    | exact sumN
    | exact tupleN
    | exact listN
    | exact sortedN
    | exact splitN
    | exact joinN
    | exact scountN
    | exact lcountN
    | exact dsubN
    | exact reprN
    | exact negN
    | exact stpN
    | exact ⟨_, PySem.F.slot_list_pop, PySem.F.type_list_pop, fun _ _ => ⟨_, mt_popAt, mu_pop⟩⟩
    | exact ⟨_, PySem.F.slot_list_extend, PySem.F.type_list_extend, fun X ad => ⟨_, mt_extR, ad.k ▸ mu_ext⟩⟩
    | exact fr_abs H
    | exact fr_all H
    | exact fr_any H
    | exact fr_divmod H
    | exact fr_enumerate H
    | exact fr_int H
    | exact fr_isinstance H
    | exact fr_len H
    | exact fr_list H
    | exact fr_max H
    | exact fr_min H
    | exact fr_range H
    | exact fr_repr H
    | exact fr_sorted H
    | exact fr_str H
    | exact fr_tuple H
    | exact fr_zip H
    | exact fldN (k := 6) (show 6 < 17 by decide) rfl injW
    | exact fldN (k := 5) (show 5 < 17 by decide) rfl injW
    | exact fldN (k := 4) (show 4 < 17 by decide) rfl injW
    | exact lrgN (fr_list H) (fr_range H)
    | exact enumN (fr_enumerate H)
theorem fg_law_purse (H : Hd K mg) : ∃ fd, FunD K "_law_purse" "_law_purse" (defArgs s_law_purse) (defBody s_law_purse) (defScope s_law_purse) [] [] (He.ga K "_law_purse") fd ∧ FnG P w K mg base 1 (He.ga K "_law_purse") fd P_law_purse (spD (Wk K) 2 m_law_purse) ∧ Binds K fd P_law_purse [] := by
  obtain ⟨fd, F⟩ := H.c.def_ 27 (d := d_law_purse) rfl
  replace F : FunD K "_law_purse" "_law_purse" (defArgs s_law_purse) (defBody s_law_purse) (defScope s_law_purse) [] [] (He.ga K "_law_purse") fd := F
  exact ⟨fd, F, fn_ok (W := Wk K) rfl F sc_law_purse rfl (by decide) ck_law_purse (nd_law_purse H), F.bindsN fun _ _ _ _ _ _ us hl => match us, hl with | [_, _], _ => rfl⟩
theorem cal_law_purse (H : Hd K mg) : Cal P w K mg base (Wk K) 1 "_law_purse" 2 m_law_purse := by
  obtain ⟨fd, F, G, b⟩ := fg_law_purse (P := P) (w := w) (base := base) H
  exact ⟨_, fd, _, G, gl_law_purse H, F.kp, b⟩
theorem nd_law_v14 (H : Hd K mg) : needSs ⟨P, w, mg, base, Wk K⟩ 7 ir_law_v14 := by
  unfold ir_law_v14
  simp only [law_v14_c0, needSs, needS, needE, needEs, needF, needI, needO, needG, needGs, needP, and_true, true_and]
  repeat' (with_reducible apply And.intro)
  all_goals first
    | exact addN
    | exact subN
    | exact mulN
    | exact fdivN
    | exact modN
    | exact powN
    | exact eqN
    | exact neN
    | exact ltN
    | exact leN
    | exact gtN
    | exact geN
    | exact inN
    | exact ninN
    | exact isN
    | exact isnotN
    | exact ixN1
    | exact slN1
    | exact lenN
    | exact allN
    | exact anyN
    | exact absN
    | exact max2N
    | exact min2N
    | exact intN
    | exact divmodN
    | exact sumN
    | exact tupleN
    | exact listN
    | exact sortedN
    | exact splitN
    | exact joinN
    | exact scountN
    | exact lcountN
    | exact dsubN
    | exact reprN
    | exact negN
    | exact stpN
    | exact ⟨_, PySem.F.slot_list_pop, PySem.F.type_list_pop, fun _ _ => ⟨_, mt_popAt, mu_pop⟩⟩
    | exact ⟨_, PySem.F.slot_list_extend, PySem.F.type_list_extend, fun X ad => ⟨_, mt_extR, ad.k ▸ mu_ext⟩⟩
    | exact fr_abs H
    | exact fr_all H
    | exact fr_any H
    | exact fr_divmod H
    | exact fr_enumerate H
    | exact fr_int H
    | exact fr_isinstance H
    | exact fr_len H
    | exact fr_list H
    | exact fr_max H
    | exact fr_min H
    | exact fr_range H
    | exact fr_repr H
    | exact fr_sorted H
    | exact fr_str H
    | exact fr_tuple H
    | exact fr_zip H
    | exact ⟨1, by decide, cal_law_purse H⟩
    | exact ⟨7, by decide, cal_law_right_v14 H⟩
    | exact fldN (k := 6) (show 6 < 17 by decide) rfl injW
    | exact fldN (k := 5) (show 5 < 17 by decide) rfl injW
    | exact fldN (k := 4) (show 4 < 17 by decide) rfl injW
    | exact lrgN (fr_list H) (fr_range H)
    | exact enumN (fr_enumerate H)
theorem fg_law_v14 (H : Hd K mg) : ∃ fd, FunD K "law" "law" (defArgs s_law_v14) (defBody s_law_v14) (defScope s_law_v14) [] [] (He.ga K "law") fd ∧ FnG P w K mg base 8 (He.ga K "law") fd P_law_v14 (spD (Wk K) 1 m_law_v14) ∧ Binds K fd P_law_v14 [] := by
  obtain ⟨fd, F⟩ := H.c.def_ 28 (d := d_law_v14) rfl
  replace F : FunD K "law" "law" (defArgs s_law_v14) (defBody s_law_v14) (defScope s_law_v14) [] [] (He.ga K "law") fd := F
  exact ⟨fd, F, fn_ok (W := Wk K) rfl F sc_law_v14 rfl (by decide) ck_law_v14 (nd_law_v14 H), F.bindsN fun _ _ _ _ _ _ us hl => match us, hl with | [_], _ => rfl⟩
theorem cal_law_v14 (H : Hd K mg) : Cal P w K mg base (Wk K) 8 "law" 1 m_law_v14 := by
  obtain ⟨fd, F, G, b⟩ := fg_law_v14 (P := P) (w := w) (base := base) H
  exact ⟨_, fd, _, G, gl_law_v14 H, F.kp, b⟩
end
end KK
set_option Elab.async false
set_option linter.all false
set_option maxRecDepth 100000
set_option maxHeartbeats 0
/-! written by wip/gen.py: the head of rankedrules_k15_whole_needless_rows_and -/
namespace KK
open PySem PySem.Spec PyProof.Rows L2 DE
abbrev R : PySem.W.OpenRow := PySem.W.OpenLaw.row PySem.Challenge.rw_rankedrules_k15_whole_needless_rows_and
abbrev hk : PySem.W.Hook := He.hookX 4 fa fn [] [] ex
def ob (s : PySem.W.SharedT) : He.AlX := He.obsX 4 fa fn [] [] ex (HandSHeadRun.getT s)
theorem ob_eq (s : PySem.W.SharedT) : ob s = hk.obs s.abs := He.obsX_eq (HandSHeadRun.getT_eq s)
def loose : List PySem.Str := (["_wall", "__name__", "WrongValue", "InvalidText", "InvalidIndex", "NotABook", "MOST_RULES", "MOST_ROWS", "LETTERS", "is_integer", "is_between", "is_name", "are_ascending", "is_row", "are_names", "book_in", "book_text", "Book", "check_book", "turned", "next_layer", "walked", "do_fit", "is_sure", "needless", "are_alike", "alike", "_law_purse", "_law_draw", "_law_labels"] : List PySem.Str) ++ (["_law_all", "_law_holds", "_law_fitting", "_law_flipped", "_law_signs", "_law_rows", "_law_spelled", "_law_book", "_law_needless", "_law_right"] : List PySem.Str)
theorem run (w : World) : HandSHeadRun.RunEq R (PySem.W.view R.prog [45]) hk ob 4000 loose w := by
  intro os
  kernel_rfl
end KK
namespace KK
open PySem PySem.Spec PyProof.Rows L2 DE PySem.W PySem.Calls
/-- the law, from the equation about its def's meaning -/
theorem glue (hg : ∀ ns : List Int, ns.length ≤ 63 → (∀ z ∈ ns, Builtin.Int.intBits z ≤ 1048576) → ∃ S, m_law_v14 [.lst (ns.map .int)] [] = some (.bl true, S)) : PySem.Challenge.rw_rankedrules_k15_whole_needless_rows_and.Holds := by
  w_on; o_law
  refine HandSHeadRun.head_any (r := OpenLaw.row PySem.Challenge.rw_rankedrules_k15_whole_needless_rows_and) (q := view (OpenLaw.row PySem.Challenge.rw_rankedrules_k15_whole_needless_rows_and).prog [45]) (H := hk) (ob := ob) (M := 4000) (loose := loose) (d := HandSHeadRun.topDef (OpenLaw.row PySem.Challenge.rw_rankedrules_k15_whole_needless_rows_and).prog 45) (kwd := []) ob_eq
    (by kernel_rfl) (fun s => by kernel_rfl) run (by kernel_rfl) (by kernel_rfl) (by kernel_rfl) (by rfl) (by first | assumption | decide +kernel) (by decide +kernel) ⟨rfl, rfl, rfl, rfl, rfl, by decide +kernel⟩ ?hw ?hc
  case hw => w_witness2
  case hc =>
    refine walk_G (l := PySem.Challenge.rw_rankedrules_k15_whole_needless_rows_and) (n := 63) (k := 8) (x := "_law_script") (g := m_law_v14) rfl (by decide) (by kernel_rfl) ⟨rfl, by decide, by decide⟩ ?F hg
    intro w mg fa h Y G hmg0
    obtain ⟨K, KX, c⟩ := Y
    have hmg : mg ("law" : PySem.Str) = some (.ref fa) := by
      have e : (HandSHeadRun.topDef (OpenLaw.row PySem.Challenge.rw_rankedrules_k15_whole_needless_rows_and).prog 45).name = ("law" : PySem.Str) := by kernel_rfl
      rw [← e]
      exact hmg0
    have Hh : Hd K mg := ⟨c.t.d, c.more, h, KX, G⟩
    have e := hmg.symm.trans (gl_law_v14 Hh)
    cases e
    obtain ⟨fd, F⟩ := Hh.c.def_ 28 (d := d_law_v14) rfl
    have b := FunD.bindsA (ps := P_law_v14) F fun _ _ _ _ _ _ us hl => match us, hl with | [_], _ => rfl
    exact ⟨K, Wk K, fd, rfl, KX, fun s v => b s [v] rfl, fun base _ _ => fn_ok (W := Wk K) rfl F sc_law_v14 rfl (by decide) ck_law_v14 (nd_law_v14 Hh)⟩
end KK
open PySem PySem.W PyProof.Rows
set_option Elab.async false
set_option maxRecDepth 100000 in
set_option maxHeartbeats 0 in
theorem PySem.Challenge.cw_rankedrules_k15_whole_needless_rows_and_holds : PySem.Challenge.rw_rankedrules_k15_whole_needless_rows_and.Holds := by
  exact KK.glue fun ns h _ => KK.law15 ns h
