import PyProof.Rows.All
import Wide.All
import OpenK.AllK
import Wide.FinOn
import HandS.ForMost
import HandS.Walk
import HandS.Codes
import HandS.NoneIn
import HandS.TupAny
import HandS.Property
import HandS.IsInst
import HandS.Style
import HandS.Conv
import HandS.Strs
import HandS.Zip
import HandS.Lambda
import HandS.Defaults
import HandS.EndBits
import HandS.Star
import HandS.Deep
import HandS.SortInts
import HandS.Text
import KE.DataFind
import KE.GoesEnum
import HandS.Head0
import HandS.Head1
import HandS.Head2
import HandS.HeadEnd
import HandS.HeadHook4
import HandS.RaiseMore
import HandS.SetFor
import HandS.CallLocal
import KE.GoesZip
import KE.GoesMore
import HandS.WideBits
import KE.KDictZip
import HandS.Set
import PyProof.Rows.SortShellAny
import HandS.DictTup
import KE.KDictCopyH
import KE.KDictSum
import HandS.DictSubView
import PyProof.TupleOfStr
import PyProof.ListStr
import HandS.TupSets
import KE.SortData
import HandS.Exc
import HandS.ExcOwn
import KE.KExcIs
import KE.KExcInit
import HandS.TryMany
import KE.KTryMore
import HandS.HotCalls
import HandS.HeadWalk
import PyProof.FString
import PyProof.FString4
import PyProof.Straight
import PyProof.ReprNest
import HandS.FStr
import PyProof.RowDictHeap
import KE.KFmtOwn
import HandS.More
import KE.GoesNew
import HandS.ReplaceLit
import HandS.ReplaceList
import HandS.Nested
import KE.GoesCell
import KE.SortKeyHeap
import HandS.ExcInit
import HandS.ExcValue
import KE.KLam
import PySem.Challenge.RW_rankedrules_k01_constants_and_errors
set_option Elab.async false
set_option linter.all false
set_option maxRecDepth 100000
set_option maxHeartbeats 4000000
namespace DE
open PySem PySem.Spec PyProof.Rows L2
/-- data: han n a cell of the store; bor i the list that slot i owns (read, not kept); brw a list lent by the caller; fn a def or class of the module; ftp, itp tuples of texts, of ints, whose object is known; dic a dict that nobody changes -/
inductive D where
  | non | bl (b : Bool) | int (i : Int) | str (s : List Nat) | lst (xs : List D) | tup (xs : List D)
  | ins (c : Nat) (fs : List (Nat × D)) | han (n : Nat) | bor (i : Nat) | brw (xs : List D) | fn (g : Nat) | ftp (ss : List (List Nat)) | itp (ns : List Int) | dic (kvs : List (Key × D)) | exc (c : Nat) (fs : List (Nat × D))
  /-- a function made in a def's body: which one, the cells of the frame that made it; lent: with what its captured names hold -/
  | clo (k : Nat) (cs : List (Str × Addr)) | clc (k : Nat) (cs : List (Str × Addr)) (caps : List D)
/-- the text of a function made in a def's body: a lambda or a def, its captured names in order -/
structure CloK where
  lam : Bool
  name : Str
  qual : Str
  params : Arguments
  body : List Stmt
  expr : Expr
  scope : Scope
  fr : List Str
/-- the object is that function, with these cells (no two names have one) and this code object -/
def CloK.obj (q : CloK) (cs : List (Str × Addr)) (c : Addr) (o : Obj) : Prop := (∀ (x y : Str) (a : Addr), cs.lookup x = some a → cs.lookup y = some a → x = y) ∧ match q.lam with
  | true => ∃ pm ctv : Value, o = PySem.W.kla_obj "<lambda>" q.qual q.params q.expr q.scope (cloFrom cs q.scope.names []) pm c ctv
  | false => ∃ (od : Option Addr) (sl : Array (Option Value)) (doc pm ctv : Value), o = ⟨.type "function", od, .func (PySem.W.fnX q.name q.qual q.params q.body q.scope (cloFrom cs q.scope.names []) .none .none doc pm none (.ref c) ctv), sl⟩
class CloT where
  f : Nat → CloK → Bool
/-- what the words mean here: the written part, the classes by number, the names of attributes by number, defs by number -/
structure Wd where
  K : PySem.W.Frag
  cls : Nat → Option Addr
  nm : Nat → Str
  nn : Nat
  fns : Nat → Option Addr
  /-- the code objects' tables, and the names of the defs made there -/
  tb : List (Addr × Str) := []
  [ck : CloT]
/-- a list that will not change -/
def KL (K : PySem.W.Frag) (a : Addr) (xs : List V) : Prop := ∃ (its : Array Value) (n : Nat), K.lookup a = some { cls := .type "list", dict := none, data := .seq its n, slots := #[] } ∧ its.size ≤ sizeLine ∧ Vals xs its.toList
theorem KL.sq {K : PySem.W.Frag} {H : Hp} {a : Addr} {xs : List V} (h : KL K a xs) : SqL K H a xs := by
  obtain ⟨its, n, h1, h2, h3⟩ := h
  exact .inr ⟨_, its, n, h1, rfl, rfl, rfl, h2, h3⟩
/-- a list that can be read -/
def LsR (K : PySem.W.Frag) (H : Hp) (a : Addr) (xs : List V) : Prop := Rd H a (.lst xs) ∨ KL K a xs
theorem LsR.sq {K : PySem.W.Frag} {H : Hp} {a : Addr} {xs : List V} (h : LsR K H a xs) : SqL K H a xs := h.elim .inl KL.sq
theorem LsR.of {K : PySem.W.Frag} {H : Hp} {a : Addr} {xs : List V} (h : H a = some (.lst xs)) : LsR K H a xs := .inl (.inl h)
def Fz (K : PySem.W.Frag) (H : Hp) (a : Addr) (xs : List V) : Prop := (∃ o, H a = some (.frz o (.lst xs))) ∨ KL K a xs
theorem Fz.sq {K : PySem.W.Frag} {H : Hp} {a : Addr} {xs : List V} (h : Fz K H a xs) : SqL K H a xs := h.elim (fun h => .inl (.inr h)) KL.sq
theorem Fz.ls {K : PySem.W.Frag} {H : Hp} {a : Addr} {xs : List V} (h : Fz K H a xs) : LsR K H a xs := h.elim (fun h => .inl (.inr h)) .inr
/-- no lent list (at the top) -/
def D.plain : D → Bool
  | .brw _ => false
  | .bor _ => false
  | _ => true
/-- what an exception's dict holds -/
def XdOf (H : Hp) (o : Obj) (fvs : List (Str × V)) : Prop := (o.dict = none ∧ fvs = []) ∨ ∃ d, o.dict = some d ∧ H d = some (.xd fvs)
mutual
def Rep (W : Wd) (ι : List Addr) (H : Hp) : D → V → Prop
  | .non, v => v = .non
  | .bl b, v => v = .bl b
  | .int i, v => v = .int i
  | .str s, v => v = .str (SX.S s) ∧ s.length ≤ sizeLine
  | .lst ds, v => ds.length ≤ sizeLine ∧ ∃ a xs, v = .ref a ∧ Fz W.K H a xs ∧ RepL W ι H ds xs
  | .tup ds, v => ds.length ≤ sizeLine ∧ ∃ a xs, v = .ref a ∧ H a = some (.tup xs) ∧ RepL W ι H ds xs
  | .ins c fs, v => ∃ a C dx fvs, v = .ref a ∧ W.cls c = some C ∧ H a = some (.ins C dx fvs) ∧ a ∉ ι ∧ Cls W.K C ∧ RepF W ι H C fs fvs
  | .han n, v => ∃ a, ι[n]? = some a ∧ v = .ref a
  | .bor _, _ => False
  | .brw ds, v => ds.length ≤ sizeLine ∧ ∃ a xs, v = .ref a ∧ H a = some (.lst xs) ∧ a ∉ ι ∧ RepL W ι H ds xs
  | .fn g, v => ∃ a, W.fns g = some a ∧ v = .ref a
  | .ftp ss, v => ss.length ≤ sizeLine ∧ (∀ s ∈ ss, s.length ≤ sizeLine) ∧ ∃ a o, v = .ref a ∧ H a = some (.frz o (.tup (ss.map fun s => V.str (SX.S s)))) ∧ o.dict = none
  | .itp ns, v => ns.length ≤ sizeLine ∧ ∃ a o, v = .ref a ∧ H a = some (.frz o (.tup (ns.map V.int))) ∧ o.dict = none
  | .dic kvs, v => kvs.length ≤ sizeLine ∧ ∃ a o kv, v = .ref a ∧ H a = some (.frz o (.dK kv)) ∧ RepD W ι H kvs kv
  | .exc c fs, v => ∃ a o C fvs, v = .ref a ∧ W.cls c = some C ∧ H a = some (.frz o (.own a)) ∧ o.cls = .ref C ∧ (∃ vs, o.data = .fields vs) ∧ XdOf H o fvs ∧ RepF W ι H C fs fvs
  | .clo k cs, v => ∃ a o c q, v = .ref a ∧ W.ck.f k q = true ∧ H a = some (.frz o (.own a)) ∧ q.obj cs c o ∧ H c = some (LamX.CodeO c q.qual)
  | .clc k cs caps, v => ∃ a o c q, v = .ref a ∧ W.ck.f k q = true ∧ H a = some (.frz o (.own a)) ∧ q.obj cs c o ∧ H c = some (LamX.CodeO c q.qual) ∧ RepC W ι H cs caps q.fr
def RepC (W : Wd) (ι : List Addr) (H : Hp) (cs : List (Str × Addr)) : List D → List Str → Prop
  | [], ys => ys = []
  | d :: ds, ys => ∃ y r c oc w u, ys = y :: r ∧ cs.lookup y = some c ∧ H c = some (.frz oc (.own c)) ∧ oc.data = .cell (some u) ∧ RelV w u ∧ d.plain = true ∧ Rep W ι H d w ∧ RepC W ι H cs ds r
def RepL (W : Wd) (ι : List Addr) (H : Hp) : List D → List V → Prop
  | [], vs => vs = []
  | d :: ds, vs => ∃ v r, vs = v :: r ∧ d.plain = true ∧ Rep W ι H d v ∧ RepL W ι H ds r
def RepD (W : Wd) (ι : List Addr) (H : Hp) : List (Key × D) → List (Key × V) → Prop
  | [], vs => vs = []
  | (k, d) :: ds, vs => ∃ v r, vs = (k, v) :: r ∧ d.plain = true ∧ Rep W ι H d v ∧ RepD W ι H ds r
def RepF (W : Wd) (ι : List Addr) (H : Hp) (C : Addr) : List (Nat × D) → List (Str × V) → Prop
  | [], vs => vs = []
  | (k, d) :: ds, vs => ∃ v r, vs = (W.nm k, v) :: r ∧ k < W.nn ∧ NoAttr W.K C (W.nm k) ∧ d.plain = true ∧ Rep W ι H d v ∧ RepF W ι H C ds r
end
/-- a thing that never changes -/
def fzn : HO → Bool
  | .frz _ _ => true
  | .tup _ => true
  | .xd _ => true
  | .ext _ => true
  | _ => false
/-- what stands between two heaps: no lasting thing is lost -/
structure Kp (ι : List Addr) (H : Hp) (ι' : List Addr) (H' : Hp) : Prop where
  pre : ι <+: ι'
  new : ∀ a ∈ ι', a ∉ ι → ∀ C dx fs, H a ≠ some (.ins C dx fs)
  fz : ∀ b o, H b = some o → fzn o = true → H' b = some o
  ins : ∀ b C dx fs, H b = some (.ins C dx fs) → b ∉ ι → H' b = some (.ins C dx fs)
  th : ∀ b, H' b = none → H b = none
theorem Kp.refl {ι : List Addr} {H : Hp} : Kp ι H ι H := ⟨List.prefix_refl _, fun _ h n => absurd h n, fun _ _ e _ => e, fun _ _ _ _ e _ => e, fun _ e => e⟩
theorem Kp.mem {ι : List Addr} {H : Hp} {ι' : List Addr} {H' : Hp} (k : Kp ι H ι' H') {b C dx : Addr} {fs : List (Str × V)} (e : H b = some (.ins C dx fs)) (n : b ∉ ι) : b ∉ ι' := fun h => k.new b h n C dx fs e
theorem Kp.trans {ι ι1 ι2 : List Addr} {H H1 H2 : Hp} (a : Kp ι H ι1 H1) (b : Kp ι1 H1 ι2 H2) : Kp ι H ι2 H2 :=
  ⟨a.pre.trans b.pre, fun x h n => by
    by_cases hx : x ∈ ι1
    · exact a.new x hx n
    · exact fun C dx fs e => b.new x h hx C dx fs (a.ins x C dx fs e n), fun x o e s => b.fz x o (a.fz x o e s) s, fun x C dx fs e n => b.ins x C dx fs (a.ins x C dx fs e n) (a.mem e n), fun x e => a.th x (b.th x e)⟩
theorem pre_get {α : Type} {l l' : List α} (h : l <+: l') {n : Nat} {a : α} (e : l[n]? = some a) : l'[n]? = some a := by
  obtain ⟨t, rfl⟩ := h
  have hn : n < l.length := (List.getElem?_eq_some_iff.mp e).1
  rw [List.getElem?_append_left hn]; exact e
theorem fz_sqT {K : PySem.W.Frag} {H H' : Hp} {a : Addr} {xs : List V} (k : ∀ b o, H b = some o → fzn o = true → H' b = some o) (h : SqT K H a xs) : SqT K H' a xs := by
  rcases h with (h | ⟨o, h⟩) | h
  · exact .inl (.inl (k _ _ h rfl))
  · exact .inl (.inr ⟨o, k _ _ h rfl⟩)
  · exact .inr h
mutual
theorem Rep.kp {W : Wd} {ι ι' : List Addr} {H H' : Hp} (k : Kp ι H ι' H') : ∀ {d : D} {v : V}, Rep W ι H d v → d.plain = true → Rep W ι' H' d v
  | .non, _, h, _ => by unfold Rep at h ⊢; exact h
  | .bl _, _, h, _ => by unfold Rep at h ⊢; exact h
  | .int _, _, h, _ => by unfold Rep at h ⊢; exact h
  | .str _, _, h, _ => by unfold Rep at h ⊢; exact h
  | .lst ds, v, h, _ => by
    unfold Rep at h ⊢
    obtain ⟨l, a, xs, e, f, r⟩ := h
    exact ⟨l, a, xs, e, f.elim (fun ⟨o, f⟩ => .inl ⟨o, k.fz a _ f rfl⟩) .inr, RepL.kp k r⟩
  | .tup ds, v, h, _ => by
    unfold Rep at h ⊢
    obtain ⟨l, a, xs, e, f, r⟩ := h
    exact ⟨l, a, xs, e, k.fz a _ f rfl, RepL.kp k r⟩
  | .ins c fs, v, h, _ => by
    unfold Rep at h ⊢
    obtain ⟨a, C, dx, fvs, e, hc, ha, n, cl, r⟩ := h
    exact ⟨a, C, dx, fvs, e, hc, k.ins a C dx fvs ha n, k.mem ha n, cl, RepF.kp k r⟩
  | .han n, v, h, _ => by
    unfold Rep at h ⊢
    obtain ⟨a, e, h⟩ := h
    exact ⟨a, pre_get k.pre e, h⟩
  | .bor _, _, h, _ => by unfold Rep at h; exact h.elim
  | .brw _, _, _, p => by cases p
  | .fn _, _, h, _ => by unfold Rep at h ⊢; exact h
  | .ftp _, _, h, _ => by
    unfold Rep at h ⊢
    obtain ⟨l1, l2, a, o, e, f, d⟩ := h
    exact ⟨l1, l2, a, o, e, k.fz a _ f rfl, d⟩
  | .itp _, _, h, _ => by
    unfold Rep at h ⊢
    obtain ⟨l1, a, o, e, f, d⟩ := h
    exact ⟨l1, a, o, e, k.fz a _ f rfl, d⟩
  | .dic _, _, h, _ => by
    unfold Rep at h ⊢
    obtain ⟨l, a, o, kv, e, f, r⟩ := h
    exact ⟨l, a, o, kv, e, k.fz a _ f rfl, RepD.kp k r⟩
  | .exc c fs, v, h, _ => by
    unfold Rep at h ⊢
    obtain ⟨a, o, C, fvs, e, hc, ha, h1, h2, h3, r⟩ := h
    exact ⟨a, o, C, fvs, e, hc, k.fz a _ ha rfl, h1, h2, h3.imp id (fun ⟨d, e1, e2⟩ => ⟨d, e1, k.fz d _ e2 rfl⟩), RepF.kp k r⟩
  | .clo _ _, v, h, _ => by
    unfold Rep at h ⊢
    obtain ⟨a, o, c, q, e, hq, ha, ho, hc⟩ := h
    exact ⟨a, o, c, q, e, hq, k.fz a _ ha rfl, ho, k.fz c _ hc rfl⟩
  | .clc _ _ caps, v, h, _ => by
    unfold Rep at h ⊢
    obtain ⟨a, o, c, q, e, hq, ha, ho, hc, r⟩ := h
    exact ⟨a, o, c, q, e, hq, k.fz a _ ha rfl, ho, k.fz c _ hc rfl, RepC.kp k r⟩
theorem RepC.kp {W : Wd} {ι ι' : List Addr} {H H' : Hp} {cs : List (Str × Addr)} (k : Kp ι H ι' H') : ∀ {ds : List D} {ys : List Str}, RepC W ι H cs ds ys → RepC W ι' H' cs ds ys
  | [], _, h => by unfold RepC at h ⊢; exact h
  | d :: ds, _, h => by
    unfold RepC at h ⊢
    obtain ⟨y, r, c, oc, w, u, e, e1, e2, e3, e4, p, h1, h2⟩ := h
    exact ⟨y, r, c, oc, w, u, e, e1, k.fz c _ e2 rfl, e3, e4, p, h1.kp k p, h2.kp k⟩
theorem RepL.kp {W : Wd} {ι ι' : List Addr} {H H' : Hp} (k : Kp ι H ι' H') : ∀ {ds : List D} {vs : List V}, RepL W ι H ds vs → RepL W ι' H' ds vs
  | [], _, h => by unfold RepL at h ⊢; exact h
  | d :: ds, _, h => by
    unfold RepL at h ⊢
    obtain ⟨v, r, e, p, h1, h2⟩ := h
    exact ⟨v, r, e, p, h1.kp k p, h2.kp k⟩
theorem RepD.kp {W : Wd} {ι ι' : List Addr} {H H' : Hp} (k : Kp ι H ι' H') : ∀ {ds : List (Key × D)} {vs : List (Key × V)}, RepD W ι H ds vs → RepD W ι' H' ds vs
  | [], _, h => by unfold RepD at h ⊢; exact h
  | (n, d) :: ds, _, h => by
    unfold RepD at h ⊢
    obtain ⟨v, r, e, p, h1, h2⟩ := h
    exact ⟨v, r, e, p, h1.kp k p, h2.kp k⟩
theorem RepF.kp {W : Wd} {ι ι' : List Addr} {H H' : Hp} {C : Addr} (k : Kp ι H ι' H') : ∀ {ds : List (Nat × D)} {vs : List (Str × V)}, RepF W ι H C ds vs → RepF W ι' H' C ds vs
  | [], _, h => by unfold RepF at h ⊢; exact h
  | (n, d) :: ds, _, h => by
    unfold RepF at h ⊢
    obtain ⟨v, r, e, l, na, p, h1, h2⟩ := h
    exact ⟨v, r, e, l, na, p, h1.kp k p, h2.kp k⟩
end
section
variable {W : Wd} {ι : List Addr} {H : Hp}
theorem RepL.nil : RepL W ι H [] [] := by unfold RepL; rfl
theorem RepL.cons {d : D} {v : V} {ds : List D} {vs : List V} (p : d.plain = true) (h : Rep W ι H d v) (t : RepL W ι H ds vs) : RepL W ι H (d :: ds) (v :: vs) := by unfold RepL; exact ⟨v, vs, rfl, p, h, t⟩
theorem repL_ints0 : ∀ (ns : List Int), RepL W ι H (ns.map D.int) (ns.map V.int)
  | [] => .nil
  | n :: ns => .cons rfl (by unfold Rep; rfl) (repL_ints0 ns)
theorem RepL.length : ∀ {ds : List D} {vs : List V}, RepL W ι H ds vs → ds.length = vs.length
  | [], _, h => by unfold RepL at h; subst h; rfl
  | d :: ds, _, h => by
    unfold RepL at h
    obtain ⟨v, r, rfl, _, _, h⟩ := h
    simp [h.length]
theorem RepL.append : ∀ {ds es : List D} {vs us : List V}, RepL W ι H ds vs → RepL W ι H es us → RepL W ι H (ds ++ es) (vs ++ us)
  | [], _, _, _, h, k => by unfold RepL at h; subst h; exact k
  | d :: ds, _, _, _, h, k => by
    unfold RepL at h
    obtain ⟨v, r, rfl, p, h1, h2⟩ := h
    exact .cons p h1 (h2.append k)
theorem RepL.get : ∀ {ds : List D} {vs : List V} {i : Nat} {d : D}, RepL W ι H ds vs → ds[i]? = some d → ∃ v, vs[i]? = some v ∧ Rep W ι H d v ∧ d.plain = true
  | [], _, _, _, _, e => by simp at e
  | d :: ds, _, 0, _, h, e => by
    unfold RepL at h
    obtain ⟨v, r, rfl, p, h1, h2⟩ := h
    simp at e; subst e
    exact ⟨v, rfl, h1, p⟩
  | d :: ds, _, i + 1, _, h, e => by
    unfold RepL at h
    obtain ⟨v, r, rfl, p, h1, h2⟩ := h
    exact h2.get (i := i) (by simpa using e)
theorem RepL.take : ∀ {ds : List D} {vs : List V} (n : Nat), RepL W ι H ds vs → RepL W ι H (ds.take n) (vs.take n)
  | [], _, n, h => by unfold RepL at h; subst h; simp; exact .nil
  | d :: ds, _, 0, h => by simp; exact .nil
  | d :: ds, _, n + 1, h => by
    unfold RepL at h
    obtain ⟨v, r, rfl, p, h1, h2⟩ := h
    simp only [List.take_succ_cons]
    exact .cons p h1 (h2.take n)
theorem RepL.drop : ∀ {ds : List D} {vs : List V} (n : Nat), RepL W ι H ds vs → RepL W ι H (ds.drop n) (vs.drop n)
  | [], _, n, h => by unfold RepL at h; subst h; simp; exact .nil
  | d :: ds, _, 0, h => by simpa using h
  | d :: ds, _, n + 1, h => by
    unfold RepL at h
    obtain ⟨v, r, rfl, p, h1, h2⟩ := h
    simp only [List.drop_succ_cons]
    exact h2.drop n
theorem RepL.set : ∀ {ds : List D} {vs : List V} {d : D} {v : V} (n : Nat), RepL W ι H ds vs → Rep W ι H d v → d.plain = true → RepL W ι H (ds.set n d) (vs.set n v)
  | [], _, _, _, n, h, _, _ => by unfold RepL at h; subst h; simp; exact .nil
  | d :: ds, _, _, _, 0, h, k, q => by
    unfold RepL at h
    obtain ⟨v, r, rfl, p, h1, h2⟩ := h
    exact .cons q k h2
  | d :: ds, _, _, _, n + 1, h, k, q => by
    unfold RepL at h
    obtain ⟨v, r, rfl, p, h1, h2⟩ := h
    exact .cons p h1 (h2.set n k q)
theorem RepL.erase : ∀ {ds : List D} {vs : List V} (n : Nat), RepL W ι H ds vs → RepL W ι H (ds.eraseIdx n) (vs.eraseIdx n)
  | [], _, n, h => by unfold RepL at h; subst h; simp; exact .nil
  | d :: ds, _, 0, h => by
    unfold RepL at h
    obtain ⟨v, r, rfl, p, h1, h2⟩ := h
    exact h2
  | d :: ds, _, n + 1, h => by
    unfold RepL at h
    obtain ⟨v, r, rfl, p, h1, h2⟩ := h
    exact .cons p h1 (h2.erase n)
end
/-- a thing that changes: a list, an instance, a dict whose keys are tuples, one whose keys are ints and texts -/
inductive MO where
  | lst (ds : List D) | ins (c : Nat) (fs : List (Nat × D)) | dT (kvs : List (List Key × D)) | dK (kvs : List (Key × D))
def RepT (W : Wd) (ι : List Addr) (H : Hp) {κ : Type} : List (κ × D) → List (κ × V) → Prop := Paired fun p q => p.1 = q.1 ∧ p.2.plain = true ∧ Rep W ι H p.2 q.2
theorem RepT.kp {W : Wd} {ι ι' : List Addr} {H H' : Hp} {κ : Type} {a : List (κ × D)} {b : List (κ × V)} (h : RepT W ι H a b) (k : Kp ι H ι' H') : RepT W ι' H' a b :=
  Paired.mapP h fun p q z => ⟨z.1, z.2.1, z.2.2.kp k z.2.1⟩
def MRep (W : Wd) (ι : List Addr) (H : Hp) (a : Addr) : MO → Prop
  | .lst ds => ds.length ≤ sizeLine ∧ ∃ xs, H a = some (.lst xs) ∧ RepL W ι H ds xs
  | .ins c fs => ∃ C dx fvs, W.cls c = some C ∧ H a = some (.ins C dx fvs) ∧ Cls W.K C ∧ RepF W ι H C fs fvs
  | .dT kvs => kvs.length ≤ sizeLine ∧ ∃ kv, H a = some (.dT kv) ∧ RepT W ι H kvs kv
  | .dK kvs => kvs.length ≤ sizeLine ∧ ∃ kv, H a = some (.dK kv) ∧ RepT W ι H kvs kv
theorem MRep.there {W : Wd} {ι : List Addr} {H : Hp} {a : Addr} : ∀ {m : MO}, MRep W ι H a m → ∃ o, H a = some o ∧ fzn o = false
  | .lst _, h => by obtain ⟨_, xs, e, _⟩ := h; exact ⟨_, e, rfl⟩
  | .ins _ _, h => by obtain ⟨_, _, _, _, e, _⟩ := h; exact ⟨_, e, rfl⟩
  | .dT _, h => by obtain ⟨_, xs, e, _⟩ := h; exact ⟨_, e, rfl⟩
  | .dK _, h => by obtain ⟨_, xs, e, _⟩ := h; exact ⟨_, e, rfl⟩
/-- the thing at a is as it was -/
theorem MRep.kp {W : Wd} {ι ι' : List Addr} {H H' : Hp} {a : Addr} (k : Kp ι H ι' H') (e : ∀ o, H a = some o → H' a = some o) : ∀ {m : MO}, MRep W ι H a m → MRep W ι' H' a m
  | .lst _, h => by obtain ⟨l, xs, x, r⟩ := h; exact ⟨l, xs, e _ x, r.kp k⟩
  | .ins _ _, h => by obtain ⟨C, dx, fvs, c, x, cl, r⟩ := h; exact ⟨C, dx, fvs, c, e _ x, cl, r.kp k⟩
  | .dT _, h => by obtain ⟨l, xs, x, r⟩ := h; exact ⟨l, xs, e _ x, r.kp k⟩
  | .dK _, h => by obtain ⟨l, xs, x, r⟩ := h; exact ⟨l, xs, e _ x, r.kp k⟩
/-- no table -/
def nTb : HO → Bool
  | .tbl _ => false
  | _ => true
/-- what stands there still: a table may have grown -/
def Kept (o : HO) (x : Option HO) : Prop := x = some o ∨ nTb o = false ∧ ∃ u, x = some u ∧ nTb u = false
theorem Kept.ne {o : HO} (h : Kept o none) : False := by
  rcases h with h | ⟨_, u, h, _⟩ <;> cases h
theorem Kept.eq {o : HO} {x : Option HO} (h : Kept o x) (n : nTb o = true) : x = some o := by
  rcases h with h | ⟨h, _⟩
  · exact h
  · rw [n] at h; cases h
theorem Kept.some_ {o : HO} {x : Option HO} (h : Kept o x) : ∃ u, x = some u := by
  rcases h with h | ⟨_, u, h, _⟩
  · exact ⟨_, h⟩
  · exact ⟨_, h⟩
theorem Kept.mono {o : HO} {x y : Option HO} (h : Kept o x) (e : ∀ u, x = some u → y = some u) : Kept o y := by
  rcases h with h | ⟨n, u, h, m⟩
  · exact .inl (e _ h)
  · exact .inr ⟨n, u, e _ h, m⟩
theorem Kept.trans {o : HO} {x y : Option HO} (h : Kept o x) (e : ∀ u, x = some u → Kept u y) : Kept o y := by
  rcases h with h | ⟨n, u, h, m⟩
  · exact e _ h
  · rcases e _ h with h2 | ⟨_, u2, h2, m2⟩
    · exact .inr ⟨n, u, h2, m⟩
    · exact .inr ⟨n, u2, h2, m2⟩
/-- neither a table nor a code object -/
def NTE (x : Option HO) : Prop := ∀ u, x = some u → nTb u = true ∧ ∀ φ, u ≠ .ext φ
theorem nte_of {u : HO} (h1 : nTb u = true) (h2 : ∀ φ, u ≠ .ext φ) : NTE (some u) := fun v h => by cases h; exact ⟨h1, h2⟩
theorem nte_lst {x : Option HO} {xs : List V} (h : x = some (.lst xs)) : NTE x := by rw [h]; exact nte_of rfl fun _ z => by cases z
theorem nte_dT {x : Option HO} {xs : List (List Key × V)} (h : x = some (.dT xs)) : NTE x := by rw [h]; exact nte_of rfl fun _ z => by cases z
theorem nte_dK {x : Option HO} {xs : List (Key × V)} (h : x = some (.dK xs)) : NTE x := by rw [h]; exact nte_of rfl fun _ z => by cases z
theorem nte_ins {x : Option HO} {C dx : Addr} {xs : List (Str × V)} (h : x = some (.ins C dx xs)) : NTE x := by rw [h]; exact nte_of rfl fun _ z => by cases z
abbrev Tbs (W : Wd) (H : Hp) : Prop := LamX.Tabs W.tb H
/-- a thing that is no table and no code object is put elsewhere -/
theorem Tbs.upd {W : Wd} {H : Hp} (t : Tbs W H) {p : Addr} {o : HO} (h : NTE (H p)) : Tbs W (upd H p o) := fun q hq => by
  obtain ⟨ps, h1, h2, h3⟩ := t q hq
  refine ⟨ps, ?_, h2, fun pos cv hc => ?_⟩
  · rw [upd_ne (fun z => by rw [z] at h1; have := (h _ h1).1; cases this)]; exact h1
  · obtain ⟨c, e1, e2⟩ := h3 pos cv hc
    refine ⟨c, e1, ?_⟩
    rw [upd_ne (fun z => by rw [z] at e2; exact (h _ e2).2 _ rfl)]; exact e2
theorem Tbs.same {W : Wd} {H H' : Hp} (t : Tbs W H) (e : ∀ b o, H b = some o → H' b = some o) : Tbs W H' := t.ext e
structure StRep (W : Wd) (ι : List Addr) (H : Hp) (S : List MO) : Prop where
  tb : Tbs W H
  len : S.length = ι.length
  nd : ι.Nodup
  at_ : ∀ (n : Nat) (m : MO) (a : Addr), S[n]? = some m → ι[n]? = some a → MRep W ι H a m
theorem StRep.mem {W : Wd} {ι : List Addr} {H : Hp} {S : List MO} (h : StRep W ι H S) {a : Addr} (m : a ∈ ι) : ∃ o, H a = some o ∧ fzn o = false := by
  obtain ⟨n, hn, e⟩ := List.getElem_of_mem m
  have e1 : ι[n]? = some a := by rw [List.getElem?_eq_getElem hn, e]
  have hs : n < S.length := by rw [h.len]; exact hn
  exact (h.at_ n _ a (List.getElem?_eq_getElem hs) e1).there
theorem MRep.nte {W : Wd} {ι : List Addr} {H : Hp} {a : Addr} : ∀ {m : MO}, MRep W ι H a m → NTE (H a)
  | .lst _, h => by obtain ⟨_, xs, e, _⟩ := h; exact nte_lst e
  | .ins _ _, h => by obtain ⟨_, _, _, _, e, _⟩ := h; exact nte_ins e
  | .dT _, h => by obtain ⟨_, xs, e, _⟩ := h; exact nte_dT e
  | .dK _, h => by obtain ⟨_, xs, e, _⟩ := h; exact nte_dK e
theorem StRep.nte {W : Wd} {ι : List Addr} {H : Hp} {S : List MO} (h : StRep W ι H S) {a : Addr} (m : a ∈ ι) : NTE (H a) := by
  obtain ⟨n, hn, e⟩ := List.getElem_of_mem m
  have e1 : ι[n]? = some a := by rw [List.getElem?_eq_getElem hn, e]
  have hs : n < S.length := by rw [h.len]; exact hn
  exact (h.at_ n _ a (List.getElem?_eq_getElem hs) e1).nte
/-- what a slot holds -/
inductive DV where
  | imm (d : D) | own (ds : List D) | brw (ds : List D) | oT (kvs : List (List Key × D)) | oK (kvs : List (Key × D)) | obj (a : Addr)
def DV.isOwn : DV → Bool
  | .own _ => true
  | .oT _ => true
  | .oK _ => true
  | _ => false
abbrev Rho := List (Option DV)
abbrev Store := List MO
abbrev Z := Rho × Store
/-- the def's entry -/
structure Bs where
  ι : List Addr
  H : Hp
  /-- things in the making, which nobody else may change -/
  P : Hp
/-- a is new since the entry, and in no one's making -/
def Bs.fr (B : Bs) (a : Addr) : Prop := B.H a = none ∧ B.P a = none
def DRep (W : Wd) (B : Bs) (ι : List Addr) (H : Hp) (v : V) : DV → Prop
  | .imm d => d.plain = true ∧ Rep W ι H d v
  | .own ds => ds.length ≤ sizeLine ∧ ∃ a xs, v = .ref a ∧ H a = some (.lst xs) ∧ B.fr a ∧ a ∉ ι ∧ RepL W ι H ds xs
  | .oT kvs => kvs.length ≤ sizeLine ∧ ∃ a kv, v = .ref a ∧ H a = some (.dT kv) ∧ B.fr a ∧ a ∉ ι ∧ RepT W ι H kvs kv
  | .oK kvs => kvs.length ≤ sizeLine ∧ ∃ a kv, v = .ref a ∧ H a = some (.dK kv) ∧ B.fr a ∧ a ∉ ι ∧ RepT W ι H kvs kv
  | .obj a => v = .ref a
  | .brw ds => ds.length ≤ sizeLine ∧ ∃ a xs, v = .ref a ∧ H a = some (.lst xs) ∧ B.H a = some (.lst xs) ∧ a ∉ B.ι ∧ a ∉ ι ∧ RepL W ι H ds xs
structure ZR (W : Wd) (B : Bs) (ι : List Addr) (H : Hp) (σ : L2.St) (z : Z) : Prop where
  st : StRep W ι H z.2
  pre : B.ι <+: ι
  new : ∀ a ∈ ι, a ∉ B.ι → B.H a = none
  keep : ∀ b o, B.H b = some o → b ∉ B.ι → Kept o (H b)
  newP : ∀ a ∈ ι, B.P a = none
  keepP : ∀ b o, B.P b = some o → Kept o (H b)
  len : z.1.length = σ.length
  slot : ∀ (i : Nat) (dv : DV), z.1[i]? = some (some dv) → ∃ v, σ[i]? = some (some v) ∧ DRep W B ι H v dv
  dis : ∀ (i j : Nat) (dv dv' : DV) (a : Addr), z.1[i]? = some (some dv) → dv.isOwn = true → z.1[j]? = some (some dv') → dv'.isOwn = true → σ[i]? = some (some (.ref a)) → σ[j]? = some (some (.ref a)) → i = j
/-- p is new: no slot owns it, it was not there at the entry, it is no cell -/
structure Fr (B : Bs) (ι : List Addr) (σ : L2.St) (z : Z) (p : Addr) : Prop where
  b : B.fr p
  i : p ∉ ι
  o : ∀ (j : Nat) (dv : DV), z.1[j]? = some (some dv) → dv.isOwn = true → σ[j]? = some (some (.ref p)) → False
section
variable {W : Wd} {B : Bs} {ι : List Addr} {H : Hp} {σ : L2.St} {z : Z}
theorem DRep.there {v : V} {a : Addr} : ∀ {dv : DV}, DRep W B ι H v dv → dv.isOwn = true → v = .ref a → ∃ o, H a = some o ∧ fzn o = false
  | .imm _, _, h, _ => by cases h
  | .brw _, _, h, _ => by cases h
  | .obj _, _, h, _ => by cases h
  | .own _, h, _, e => by obtain ⟨_, b, xs, e', x, _⟩ := h; rw [e] at e'; cases e'; exact ⟨_, x, rfl⟩
  | .oT _, h, _, e => by obtain ⟨_, b, xs, e', x, _⟩ := h; rw [e] at e'; cases e'; exact ⟨_, x, rfl⟩
  | .oK _, h, _, e => by obtain ⟨_, b, xs, e', x, _⟩ := h; rw [e] at e'; cases e'; exact ⟨_, x, rfl⟩
theorem Fr.of (zr : ZR W B ι H σ z) {p : Addr} (h : H p = none) : Fr B ι σ z p where
  b := by
    refine ⟨?_, ?_⟩
    case refine_2 =>
      cases e : B.P p with
      | none => rfl
      | some o =>
        have := zr.keepP p o e
        rw [h] at this; exact this.ne.elim
    cases e : B.H p with
    | none => rfl
    | some o =>
      by_cases hp : p ∈ B.ι
      · obtain ⟨t, ht⟩ := zr.pre
        obtain ⟨o', e', _⟩ := zr.st.mem (a := p) (by rw [← ht]; exact List.mem_append_left _ hp)
        rw [h] at e'; cases e'
      · have := zr.keep p o e hp
        rw [h] at this; exact this.ne.elim
  i := fun hp => by
    obtain ⟨o', e', _⟩ := zr.st.mem hp
    rw [h] at e'; cases e'
  o := fun j dv e ho hs => by
    obtain ⟨v, hv, r⟩ := zr.slot j dv e
    rw [hs] at hv; cases hv
    obtain ⟨o, e', _⟩ := r.there ho rfl
    rw [h] at e'; cases e'
/-- a new thing beside all -/
theorem Kp.alloc {p : Addr} {o : HO} (h : H p = none) : Kp ι H ι (upd H p o) :=
  ⟨List.prefix_refl _, fun _ h n => absurd h n, fun b u e _ => by rw [upd_ne (ne_of_none e h)]; exact e, fun b C dx fs e _ => by rw [upd_ne (ne_of_none e h)]; exact e, fun b e => by
    by_cases hb : b = p
    · rw [hb]; exact h
    · rw [upd_ne hb] at e; exact e⟩
theorem Kp.same {H' : Hp} (e : ∀ b o, H b = some o → H' b = some o) : Kp ι H ι H' :=
  ⟨List.prefix_refl _, fun _ h n => absurd h n, fun b u x _ => e b u x, fun b C dx fs x _ => e b _ x, fun b x => by
    cases q : H b with
    | none => rfl
    | some o => rw [e b o q] at x; cases x⟩
theorem StRep.same {S : Store} {H' : Hp} (h : StRep W ι H S) (tb : Tbs W H') (k : Kp ι H ι H') (e : ∀ a ∈ ι, ∀ o, H a = some o → H' a = some o) : StRep W ι H' S :=
  ⟨tb, h.len, h.nd, fun n m a e1 e2 => (h.at_ n m a e1 e2).kp k (e a (List.mem_of_getElem? e2))⟩
theorem DRep.same {H' : Hp} {v : V} (k : Kp ι H ι H') (hb : ∀ b o, H b = some o → (match o with | .lst _ => True | .dT _ => True | .dK _ => True | _ => False) → b ∉ ι → H' b = some o) : ∀ {dv : DV}, DRep W B ι H v dv → DRep W B ι H' v dv
  | .imm _, h => ⟨h.1, h.2.kp k h.1⟩
  | .obj _, h => h
  | .own _, h => by obtain ⟨l, a, xs, e, x, b, i, r⟩ := h; exact ⟨l, a, xs, e, hb a _ x trivial i, b, i, r.kp k⟩
  | .oT _, h => by obtain ⟨l, a, xs, e, x, b, i, r⟩ := h; exact ⟨l, a, xs, e, hb a _ x trivial i, b, i, r.kp k⟩
  | .oK _, h => by obtain ⟨l, a, xs, e, x, b, i, r⟩ := h; exact ⟨l, a, xs, e, hb a _ x trivial i, b, i, r.kp k⟩
  | .brw _, h => by obtain ⟨l, a, xs, e, x, b, n, i, r⟩ := h; exact ⟨l, a, xs, e, hb a _ x trivial i, b, n, i, r.kp k⟩
/-- all that is tracked stays -/
theorem ZR.same0 {H' : Hp} (zr : ZR W B ι H σ z) (k : Kp ι H ι H') (e : ∀ b o, H b = some o → H' b = some o) : ZR W B ι H' σ z :=
  ⟨zr.st.same (zr.st.tb.same e) k fun a _ o x => e a o x, zr.pre, zr.new, fun b o x n => (zr.keep b o x n).mono fun u => e b u, zr.newP, fun b o x => (zr.keepP b o x).mono fun u => e b u, zr.len, fun i dv x => by
    obtain ⟨v, hv, r⟩ := zr.slot i dv x
    exact ⟨v, hv, r.same k fun b o y _ _ => e b o y⟩, zr.dis⟩
theorem ZR.alloc (zr : ZR W B ι H σ z) {p : Addr} {o : HO} (h : H p = none) : ZR W B ι (upd H p o) σ z :=
  zr.same0 (Kp.alloc h) fun b u e => by rw [upd_ne (ne_of_none e h)]; exact e
theorem ZR.same {H' : Hp} (zr : ZR W B ι H σ z) (e : ∀ b o, H b = some o → H' b = some o) : ZR W B ι H' σ z := zr.same0 (Kp.same e) e
end
end DE
set_option Elab.async false
set_option linter.all false
set_option maxRecDepth 100000
set_option maxHeartbeats 4000000
namespace DE
open PySem PySem.Spec L2
/-- what an expression gives, as data: a slot's own list is told by its slot -/
def XRep (W : Wd) (ι : List Addr) (H : Hp) (σ : L2.St) : D → V → Prop
  | .bor i, v => σ[i]? = some (some v)
  | d, v => d.plain = true ∧ Rep W ι H d v
theorem XRep.kp {W : Wd} {ι ι' : List Addr} {H H' : Hp} {σ : L2.St} (k : Kp ι H ι' H') : ∀ {d : D} {v : V}, XRep W ι H σ d v → XRep W ι' H' σ d v
  | .bor _, _, h => h
  | .non, _, h => ⟨h.1, h.2.kp k h.1⟩
  | .bl _, _, h => ⟨h.1, h.2.kp k h.1⟩
  | .int _, _, h => ⟨h.1, h.2.kp k h.1⟩
  | .str _, _, h => ⟨h.1, h.2.kp k h.1⟩
  | .lst _, _, h => ⟨h.1, h.2.kp k h.1⟩
  | .tup _, _, h => ⟨h.1, h.2.kp k h.1⟩
  | .ins _ _, _, h => ⟨h.1, h.2.kp k h.1⟩
  | .han _, _, h => ⟨h.1, h.2.kp k h.1⟩
  | .brw _, _, h => ⟨h.1, h.2.kp k h.1⟩
  | .fn _, _, h => ⟨h.1, h.2.kp k h.1⟩
  | .ftp _, _, h => ⟨h.1, h.2.kp k h.1⟩
  | .itp _, _, h => ⟨h.1, h.2.kp k h.1⟩
  | .dic _, _, h => ⟨h.1, h.2.kp k h.1⟩
  | .exc _ _, _, h => ⟨h.1, h.2.kp k h.1⟩
  | .clo _ _, _, h => ⟨h.1, h.2.kp k h.1⟩
  | .clc _ _ _, _, h => ⟨h.1, h.2.kp k h.1⟩
theorem XRep.of {W : Wd} {ι : List Addr} {H : Hp} {σ : L2.St} : ∀ {d : D} {v : V}, d.plain = true → Rep W ι H d v → XRep W ι H σ d v
  | .bor _, _, p, _ => by cases p
  | .non, _, p, h => ⟨p, h⟩
  | .bl _, _, p, h => ⟨p, h⟩
  | .int _, _, p, h => ⟨p, h⟩
  | .str _, _, p, h => ⟨p, h⟩
  | .lst _, _, p, h => ⟨p, h⟩
  | .tup _, _, p, h => ⟨p, h⟩
  | .ins _ _, _, p, h => ⟨p, h⟩
  | .han _, _, p, h => ⟨p, h⟩
  | .brw _, _, p, h => ⟨p, h⟩
  | .fn _, _, p, h => ⟨p, h⟩
  | .ftp _, _, p, h => ⟨p, h⟩
  | .itp _, _, p, h => ⟨p, h⟩
  | .dic _, _, p, h => ⟨p, h⟩
  | .exc _ _, _, p, h => ⟨p, h⟩
  | .clo _ _, _, p, h => ⟨p, h⟩
  | .clc _ _ _, _, p, h => ⟨p, h⟩
theorem XRep.rep {W : Wd} {ι : List Addr} {H : Hp} {σ : L2.St} : ∀ {d : D} {v : V}, XRep W ι H σ d v → d.plain = true → Rep W ι H d v
  | .bor _, _, _, p => by cases p
  | .non, _, h, _ => h.2
  | .bl _, _, h, _ => h.2
  | .int _, _, h, _ => h.2
  | .str _, _, h, _ => h.2
  | .lst _, _, h, _ => h.2
  | .tup _, _, h, _ => h.2
  | .ins _ _, _, h, _ => h.2
  | .han _, _, h, _ => h.2
  | .brw _, _, h, _ => h.2
  | .fn _, _, h, _ => h.2
  | .ftp _, _, h, _ => h.2
  | .itp _, _, h, _ => h.2
  | .dic _, _, h, _ => h.2
  | .exc _ _, _, h, _ => h.2
  | .clo _ _, _, h, _ => h.2
  | .clc _ _ _, _, h, _ => h.2
/-- to be read now -/
def rdB (o : Option (Option DV)) : Option D := match o with
  | some (some (.own ds)) => some (.lst ds)
  | some (some (.brw ds)) => some (.lst ds)
  | _ => none
def rdH (n : Nat) (o : Option MO) : Option D := match o with
  | some (.lst ds) => some (.lst ds)
  | _ => some (.han n)
def rd (z : Z) : D → Option D
  | .bor i => rdB z.1[i]?
  | .han n => rdH n z.2[n]?
  | .brw _ => none
  | d => some d
def RRep (W : Wd) (ι : List Addr) (H : Hp) : D → V → Prop
  | .lst ds, v => ds.length ≤ sizeLine ∧ ∃ a xs, v = .ref a ∧ LsR W.K H a xs ∧ RepL W ι H ds xs
  | d, v => d.plain = true ∧ Rep W ι H d v
theorem RRep.of {W : Wd} {ι : List Addr} {H : Hp} : ∀ {d : D} {v : V}, d.plain = true → Rep W ι H d v → RRep W ι H d v
  | .bor _, _, p, _ => by cases p
  | .lst _, _, p, h => by
    unfold Rep at h
    obtain ⟨l, a, xs, e, f, r⟩ := h
    exact ⟨l, a, xs, e, f.ls, r⟩
  | .non, _, p, h => ⟨p, h⟩
  | .bl _, _, p, h => ⟨p, h⟩
  | .int _, _, p, h => ⟨p, h⟩
  | .str _, _, p, h => ⟨p, h⟩
  | .tup _, _, p, h => ⟨p, h⟩
  | .ins _ _, _, p, h => ⟨p, h⟩
  | .han _, _, p, h => ⟨p, h⟩
  | .brw _, _, p, h => by cases p
  | .fn _, _, p, h => ⟨p, h⟩
  | .ftp _, _, p, h => ⟨p, h⟩
  | .itp _, _, p, h => ⟨p, h⟩
  | .dic _, _, p, h => ⟨p, h⟩
  | .exc _ _, _, p, h => ⟨p, h⟩
  | .clo _ _, _, p, h => ⟨p, h⟩
  | .clc _ _ _, _, p, h => ⟨p, h⟩
theorem rd_rep {W : Wd} {B : Bs} {ι : List Addr} {H : Hp} {σ : L2.St} {z : Z} (zr : ZR W B ι H σ z) : ∀ {d d' : D} {v : V}, XRep W ι H σ d v → rd z d = some d' → RRep W ι H d' v
  | .bor i, d', v, h, e => by
    have hs : σ[i]? = some (some v) := h
    have e : rdB z.1[i]? = some d' := e
    unfold rdB at e
    split at e
    · rename_i ds q
      cases e
      obtain ⟨u, hu, l, a, xs, ea, ha, _, _, r⟩ := zr.slot i _ q
      rw [hs] at hu; cases hu
      exact ⟨l, a, xs, ea, LsR.of ha, r⟩
    · rename_i ds q
      cases e
      obtain ⟨u, hu, l, a, xs, ea, ha, _, _, _, r⟩ := zr.slot i _ q
      rw [hs] at hu; cases hu
      exact ⟨l, a, xs, ea, LsR.of ha, r⟩
    · cases e
  | .han n, d', v, h, e => by
    have e : rdH n z.2[n]? = some d' := e
    unfold rdH at e
    split at e
    · rename_i ds q
      cases e
      obtain ⟨_, hr⟩ := h
      unfold Rep at hr
      obtain ⟨a, ea, ev⟩ := hr
      obtain ⟨l, xs, hx, r⟩ := zr.st.at_ n _ a q ea
      exact ⟨l, a, xs, ev, LsR.of hx, r⟩
    · cases e
      exact RRep.of h.1 h.2
  | .brw _, _, _, h, _ => by cases h.1
  | .non, _, _, h, e => by cases e; exact RRep.of h.1 h.2
  | .bl _, _, _, h, e => by cases e; exact RRep.of h.1 h.2
  | .int _, _, _, h, e => by cases e; exact RRep.of h.1 h.2
  | .str _, _, _, h, e => by cases e; exact RRep.of h.1 h.2
  | .lst _, _, _, h, e => by cases e; exact RRep.of h.1 h.2
  | .tup _, _, _, h, e => by cases e; exact RRep.of h.1 h.2
  | .ins _ _, _, _, h, e => by cases e; exact RRep.of h.1 h.2
  | .fn _, _, _, h, e => by cases e; exact RRep.of h.1 h.2
  | .ftp _, _, _, h, e => by cases e; exact RRep.of h.1 h.2
  | .itp _, _, _, h, e => by cases e; exact RRep.of h.1 h.2
  | .dic _, _, _, h, e => by cases e; exact RRep.of h.1 h.2
  | .exc _ _, _, _, h, e => by cases e; exact RRep.of h.1 h.2
  | .clo _ _, _, _, h, e => by cases e; exact RRep.of h.1 h.2
  | .clc _ _ _, _, _, h, e => by cases e; exact RRep.of h.1 h.2
abbrev Ev := Z → Option (D × Z)
abbrev EvA := Z → Option (List D × Z)
abbrev EvT := Z → Option (Bool × Z)
/-- an expression read as data -/
def tev (W : Wd) (B : Bs) (f : Ev) : TE := fun σ H Q => ∃ ι z d z', ZR W B ι H σ z ∧ f z = some (d, z') ∧ ∀ v ι' H', Kp ι H ι' H' → XRep W ι' H' σ d v → ZR W B ι' H' σ z' → Q v H'
/-- a test read as data -/
def ttv (W : Wd) (B : Bs) (f : EvT) : TT := fun σ H Q => ∃ ι z b z', ZR W B ι H σ z ∧ f z = some (b, z') ∧ ∀ ι' H', Kp ι H ι' H' → ZR W B ι' H' σ z' → Q b H'
/-- several, as lasting data (or lent lists) -/
def tevA (W : Wd) (B : Bs) (f : EvA) : TA := fun σ H Q => ∃ ι z ds z', ZR W B ι H σ z ∧ f z = some (ds, z') ∧ ∀ vs ι' H', Kp ι H ι' H' → Paired (XRep W ι' H' σ) ds vs → ZR W B ι' H' σ z' → Q vs H'
/-- a fresh list -/
def tfr (W : Wd) (B : Bs) (f : EvA) : TE := fun σ H Q => ∃ ι z ds z', ZR W B ι H σ z ∧ f z = some (ds, z') ∧ ∀ p xs ι' H', Kp ι H ι' H' → ZR W B ι' H' σ z' → RepL W ι' H' ds xs → ds.length ≤ sizeLine → H p = none → H' p = some (.lst xs) → Fr B ι' σ z' p → Q (.ref p) H'
theorem pe_mono {X : Cx} {e : Expr} {t u : TE} (h : PE X e t) (m : ∀ σ H Q, u σ H Q → t σ H Q) : PE X e u := ⟨fun pins s σ H Q I q => h.run pins s σ H Q I (m σ H Q q)⟩
theorem pt_mono {X : Cx} {e : Expr} {t u : TT} (h : PT X e t) (m : ∀ σ H Q, u σ H Q → t σ H Q) : PT X e u := ⟨fun pins s σ H Q I q => h.run pins s σ H Q I (m σ H Q q)⟩
theorem pa_mono {X : Cx} {es : List Expr} {t u : TA} (h : PA X es t) (m : ∀ σ H Q, u σ H Q → t σ H Q) : PA X es u := ⟨fun pos pins s σ H Q I q => h.run pos pins s σ H Q I (m σ H Q q)⟩
section
variable {X : Cx} {W : Wd} {B : Bs} {a b c e : Expr} {fa fb fc : Ev} {pos : Pos}
def fVar (i : Nat) : Ev := fun z => match z.1[i]? with
  | some (some (.imm d)) => some (d, z)
  | some (some _) => some (.bor i, z)
  | _ => none
theorem pe_varD {i : Nat} {x : Str} (hN : X.N[i]? = some x) (hv : Vis X.env.scope x) (hd : (x == ("__debug__" : Str)) = false) (hcd : (x == ("__classdict__" : Str)) = false) : PE X (.Name x pos) (tev W B (fVar i)) := by
  refine pe_mono (pe_var hN hv hd hcd) fun σ H Q h => ?_
  obtain ⟨ι, z, d, z', zr, e, k⟩ := h
  unfold fVar at e
  split at e
  · rename_i d0 q
    cases e
    obtain ⟨v, hv, p, r⟩ := zr.slot i _ q
    exact ⟨v, hv, k v ι H .refl (XRep.of p r) zr⟩
  · rename_i dv q
    cases e
    obtain ⟨v, hv, _⟩ := zr.slot i _ q
    exact ⟨v, hv, k v ι H .refl hv zr⟩
  · cases e
def fC (d : D) : Ev := fun z => some (d, z)
theorem tev_c {v : V} {d : D} (p : d.plain = true) (h : ∀ ι H, Rep W ι H d v) (σ : L2.St) (H : Hp) (Q : VK) (q : tev W B (fC d) σ H Q) : tC v σ H Q := by
  obtain ⟨ι, z, d', z', zr, e, k⟩ := q
  cases e
  exact k v ι H .refl (XRep.of p (h ι H)) zr
theorem pe_intD {i j} : PE X (.Constant (.int i) j pos) (tev W B (fC (.int i))) := pe_mono pe_int (tev_c rfl fun _ _ => by unfold Rep; rfl)
theorem pe_boolD {i j} : PE X (.Constant (.bool i) j pos) (tev W B (fC (.bl i))) := pe_mono pe_bl (tev_c rfl fun _ _ => by unfold Rep; rfl)
theorem pe_nonD {j} : PE X (.Constant .none j pos) (tev W B (fC .non)) := pe_mono pe_non (tev_c rfl fun _ _ => by unfold Rep; rfl)
theorem pe_strD {s : List Nat} {x : Str} {j} (h : x = SX.S s) (hl : s.length ≤ sizeLine) : PE X (.Constant (.str x) j pos) (tev W B (fC (.str s))) := pe_mono pe_str (tev_c rfl fun _ _ => by unfold Rep; exact ⟨by rw [h], hl⟩)
theorem pe_globD {x : Str} {v : V} {u : Value} {d : D} (hg : Gl X x) (hm : X.mg x = some u) (r : RelV v u) (p : d.plain = true) (h : ∀ ι H, Rep W ι H d v) (hd : (x == ("__debug__" : Str)) = false) : PE X (.Name x pos) (tev W B (fC d)) := pe_mono (pe_glob hg hm r hd) (tev_c p h)
def fBin (op : D → D → Option D) (fa fb : Ev) : Ev := fun z => (fa z).bind fun x => (fb x.2).bind fun y => (rd y.2 x.1).bind fun x' => (rd y.2 y.1).bind fun y' => (op x' y').map fun d => (d, y.2)
def OpOk (W : Wd) (r : R2) (op : D → D → Option D) : Prop := ∀ ι H x y v w d Q, op x y = some d → RRep W ι H x v → RRep W ι H y w → (∀ u H', (∀ b o, H b = some o → H' b = some o) → d.plain = true → Rep W ι H' d u → Q u H') → r v w H Q
theorem tev_bin {r : R2} {op : D → D → Option D} (ok : OpOk W r op) (σ : L2.St) (H : Hp) (Q : VK) (q : tev W B (fBin op fa fb) σ H Q) : tOp r (tev W B fa) (tev W B fb) σ H Q := by
  obtain ⟨ι, z, d, z', zr, e, k⟩ := q
  unfold fBin at e
  cases ea : fa z with
  | none => rw [ea] at e; cases e
  | some x =>
    rw [ea, Option.bind_some] at e
    cases eb : fb x.2 with
    | none => rw [eb] at e; cases e
    | some y =>
      rw [eb, Option.bind_some] at e
      cases e1 : rd y.2 x.1 with
      | none => rw [e1] at e; cases e
      | some x' =>
        rw [e1, Option.bind_some] at e
        cases e2 : rd y.2 y.1 with
        | none => rw [e2] at e; cases e
        | some y' =>
          rw [e2, Option.bind_some] at e
          cases e3 : op x' y' with
          | none => rw [e3] at e; cases e
          | some d' =>
            rw [e3] at e; cases e
            refine ⟨ι, z, x.1, x.2, zr, ea, fun v ι1 H1 k1 r1 zr1 => ⟨ι1, x.2, y.1, y.2, zr1, eb, fun w ι2 H2 k2 r2 zr2 => ?_⟩⟩
            refine ok ι2 H2 x' y' v w d Q e3 (rd_rep zr2 (r1.kp k2) e1) (rd_rep zr2 r2 e2) fun u H' sm p rp => ?_
            exact k u ι2 H' ((k1.trans k2).trans (Kp.same sm)) (XRep.of p rp) (zr2.same sm)
theorem pe_cmpD {o : CmpOp} {r : R2} {op : D → D → Option D} (ho : OpR X (compareOp o) r) (ok : OpOk W r op) (ha : PE X a (tev W B fa)) (hb : PE X b (tev W B fb)) (hm : behindInMarks o b = false) : PE X (.Compare a [o] [b] pos) (tev W B (fBin op fa fb)) :=
  pe_mono (pe_cmpR ho ha hb hm) (tev_bin ok)
/-- a value that is a bool, as a test -/
def asT (f : Ev) : EvT := fun z => (f z).bind fun x => match x.1 with
  | .bl b => some (b, x.2)
  | _ => none
theorem ttv_b {f : Ev} (σ : L2.St) (H : Hp) (Q : Bool → Hp → Prop) (q : ttv W B (asT f) σ H Q) : tev W B f σ H fun x H1 => ∃ k, x = .bl k ∧ Q k H1 := by
  obtain ⟨ι, z, b, z', zr, e, k⟩ := q
  unfold asT at e
  cases ea : f z with
  | none => rw [ea] at e; cases e
  | some x =>
    rw [ea, Option.bind_some] at e
    obtain ⟨d, z1⟩ := x
    cases d with
    | bl c =>
      cases e
      refine ⟨ι, z, _, _, zr, ea, fun v ι' H' k1 r zr1 => ⟨_, ?_, k ι' H' k1 zr1⟩⟩
      have := r.rep rfl
      unfold Rep at this
      exact this
    | _ => cases e
theorem pt_cmpD {o : CmpOp} {r : R2} {op : D → D → Option D} (ho : OpR X (compareOp o) r) (ok : OpOk W r op) (ha : PE X a (tev W B fa)) (hb : PE X b (tev W B fb)) (hm : behindInMarks o b = false) : PT X (.Compare a [o] [b] pos) (ttv W B (asT (fBin op fa fb))) :=
  pt_mono (pt_cmpR ho ha hb hm) fun σ H Q q => tev_bin ok σ H _ (ttv_b σ H Q q)
/-- any expression whose test is its value's truth, the value a bool -/
theorem pt_valD {f : Ev} (h : PE X e (tev W B f)) (he : ∀ whole, isTrue e X.env whole = (do let v ← whole; standAt e.pos; holding [v] (truthy v))) : PT X e (ttv W B (asT f)) :=
  pt_mono (pt_val h he) fun σ H Q q => ttv_b σ H Q q
def fUn (op : D → Option D) (fa : Ev) : Ev := fun z => (fa z).bind fun x => (rd x.2 x.1).bind fun x' => (op x').map fun d => (d, x.2)
def UnOk (W : Wd) (r : V → Hp → VK → Prop) (op : D → Option D) : Prop := ∀ ι H x v d Q, op x = some d → RRep W ι H x v → (∀ u H', (∀ b o, H b = some o → H' b = some o) → d.plain = true → Rep W ι H' d u → Q u H') → r v H Q
theorem tev_un {r : V → Hp → VK → Prop} {op : D → Option D} (ok : UnOk W r op) (σ : L2.St) (H : Hp) (Q : VK) (q : tev W B (fUn op fa) σ H Q) : tUn r (tev W B fa) σ H Q := by
  obtain ⟨ι, z, d, z', zr, e, k⟩ := q
  unfold fUn at e
  cases ea : fa z with
  | none => rw [ea] at e; cases e
  | some x =>
    rw [ea, Option.bind_some] at e
    cases e1 : rd x.2 x.1 with
    | none => rw [e1] at e; cases e
    | some x' =>
      rw [e1, Option.bind_some] at e
      cases e3 : op x' with
      | none => rw [e3] at e; cases e
      | some d' =>
        rw [e3] at e; cases e
        refine ⟨ι, z, x.1, x.2, zr, ea, fun v ι1 H1 k1 r1 zr1 => ?_⟩
        refine ok ι1 H1 x' v d Q e3 (rd_rep zr1 r1 e1) fun u H' sm p rp => ?_
        exact k u ι1 H' (k1.trans (Kp.same sm)) (XRep.of p rp) (zr1.same sm)
theorem pe_unD {o : UnaryOp} {r : V → Hp → VK → Prop} {op : D → Option D} (ho : UnR X (unaryOp o) r) (ok : UnOk W r op) (ha : PE X a (tev W B fa)) : PE X (.UnaryOp o a pos) (tev W B (fUn op fa)) := pe_mono (pe_un ho ha) (tev_un ok)
/-- a op b op' c -/
def fChn (op op' : D → D → Option D) (fa fb fc : Ev) : Ev := fun z => (fa z).bind fun x => (fb x.2).bind fun y => (rd y.2 x.1).bind fun x' => (rd y.2 y.1).bind fun y' => (op x' y').bind fun d => match d with
  | .bl true => (fc y.2).bind fun w => (rd w.2 y.1).bind fun y2 => (rd w.2 w.1).bind fun w' => (op' y2 w').map fun d' => (d', w.2)
  | .bl false => some (.bl false, y.2)
  | _ => none
theorem tev_chn {r r' : R2} {op op' : D → D → Option D} (ok : OpOk W r op) (ok' : OpOk W r' op') (σ : L2.St) (H : Hp) (Q : VK) (q : tev W B (fChn op op' fa fb fc) σ H Q) : tChain r r' (tev W B fa) (tev W B fb) (tev W B fc) σ H Q := by
  obtain ⟨ι, z, d, z', zr, e, k⟩ := q
  unfold fChn at e
  cases ea : fa z with
  | none => rw [ea] at e; cases e
  | some x =>
    rw [ea, Option.bind_some] at e
    cases eb : fb x.2 with
    | none => rw [eb] at e; cases e
    | some y =>
      rw [eb, Option.bind_some] at e
      cases e1 : rd y.2 x.1 with
      | none => rw [e1] at e; cases e
      | some x' =>
        rw [e1, Option.bind_some] at e
        cases e2 : rd y.2 y.1 with
        | none => rw [e2] at e; cases e
        | some y' =>
          rw [e2, Option.bind_some] at e
          cases e3 : op x' y' with
          | none => rw [e3] at e; cases e
          | some d' =>
            rw [e3, Option.bind_some] at e
            refine ⟨ι, z, x.1, x.2, zr, ea, fun v ι1 H1 k1 r1 zr1 => ⟨ι1, x.2, y.1, y.2, zr1, eb, fun w ι2 H2 k2 r2 zr2 => ?_⟩⟩
            refine ok ι2 H2 x' y' v w d' _ e3 (rd_rep zr2 (r1.kp k2) e1) (rd_rep zr2 r2 e2) fun u H' sm p rp => ?_
            have zr3 := zr2.same sm
            cases d' with
            | bl cc =>
              unfold Rep at rp
              refine ⟨cc, rp, ?_⟩
              cases cc with
              | false =>
                cases e
                rw [if_neg Bool.false_ne_true]
                exact k (.bl false) ι2 H' ((k1.trans k2).trans (Kp.same sm)) ⟨rfl, by unfold Rep; rfl⟩ zr3
              | true =>
                rw [if_pos rfl]
                simp only at e
                cases ec : fc y.2 with
                | none => rw [ec] at e; cases e
                | some w3 =>
                  rw [ec, Option.bind_some] at e
                  cases e4 : rd w3.2 y.1 with
                  | none => rw [e4] at e; cases e
                  | some y2 =>
                    rw [e4, Option.bind_some] at e
                    cases e5 : rd w3.2 w3.1 with
                    | none => rw [e5] at e; cases e
                    | some w' =>
                      rw [e5, Option.bind_some] at e
                      cases e6 : op' y2 w' with
                      | none => rw [e6] at e; cases e
                      | some d2 =>
                        rw [e6] at e; cases e
                        refine ⟨ι2, y.2, w3.1, w3.2, zr3, ec, fun u2 ι3 H3 k3 r3 zr4 => ?_⟩
                        refine ok' ι3 H3 y2 w' w u2 d Q e6 (rd_rep zr4 (r2.kp ((Kp.same sm).trans k3)) e4) (rd_rep zr4 r3 e5) fun u4 H4 sm4 p4 rp4 => ?_
                        exact k u4 ι3 H4 ((((k1.trans k2).trans (Kp.same sm)).trans k3).trans (Kp.same sm4)) (XRep.of p4 rp4) (zr4.same sm4)
            | _ => cases e
theorem pe_chnD {o o' : CmpOp} {r r' : R2} {op op' : D → D → Option D} (ho : OpR X (compareOp o) r) (ok : OpOk W r op) (ho' : OpR X (compareOp o') r') (ok' : OpOk W r' op') (ha : PE X a (tev W B fa)) (hb : PE X b (tev W B fb)) (hc : PE X c (tev W B fc)) (hm : lastMarks [o, o'] [b, c] = false) :
    PE X (.Compare a [o, o'] [b, c] pos) (tev W B (fChn op op' fa fb fc)) := pe_mono (pe_chain ho ho' ha hb hc hm) (tev_chn ok ok')
theorem pt_chnD {o o' : CmpOp} {r r' : R2} {op op' : D → D → Option D} (ho : OpR X (compareOp o) r) (ok : OpOk W r op) (ho' : OpR X (compareOp o') r') (ok' : OpOk W r' op') (ha : PE X a (tev W B fa)) (hb : PE X b (tev W B fb)) (hc : PE X c (tev W B fc)) (hm : lastMarks [o, o'] [b, c] = false) :
    PT X (.Compare a [o, o'] [b, c] pos) (ttv W B (asT (fChn op op' fa fb fc))) := pt_mono (pt_chain ho ho' ha hb hc hm) fun σ H Q q => tev_chn ok ok' σ H _ (ttv_b σ H Q q)
def fAnd (fa fb : Ev) : Ev := fun z => (fa z).bind fun x => match x.1 with
  | .bl true => fb x.2
  | .bl false => some (.bl false, x.2)
  | _ => none
def fOr (fa fb : Ev) : Ev := fun z => (fa z).bind fun x => match x.1 with
  | .bl true => some (.bl true, x.2)
  | .bl false => fb x.2
  | _ => none
def fNot (fa : Ev) : Ev := fun z => (fa z).bind fun x => match x.1 with
  | .bl b => some (.bl (!b), x.2)
  | _ => none
theorem rep_bl {ι : List Addr} {H : Hp} {σ : L2.St} {b : Bool} {v : V} (h : XRep W ι H σ (.bl b) v) : v = .bl b := by
  have := h.rep rfl
  unfold Rep at this
  exact this
theorem xbl {ι : List Addr} {H : Hp} {σ : L2.St} {b : Bool} : XRep W ι H σ (.bl b) (.bl b) := ⟨rfl, by unfold Rep; rfl⟩
theorem pe_andD {rest : List Expr} (ha : PE X a (tev W B fa)) (hb : PE X (.BoolOp .And (b :: rest) pos) (tev W B fb)) : PE X (.BoolOp .And (a :: b :: rest) pos) (tev W B (fAnd fa fb)) := by
  refine pe_mono (pe_and ha hb) fun σ H Q q => ?_
  obtain ⟨ι, z, d, z', zr, e, k⟩ := q
  unfold fAnd at e
  cases ea : fa z with
  | none => rw [ea] at e; cases e
  | some x =>
    rw [ea, Option.bind_some] at e
    obtain ⟨d1, z1⟩ := x
    cases d1 with
    | bl c =>
      refine ⟨ι, z, _, z1, zr, ea, fun v ι1 H1 k1 r1 zr1 => ⟨c, rep_bl r1, ?_⟩⟩
      cases c with
      | true => rw [if_pos rfl]; exact ⟨ι1, z1, d, z', zr1, e, fun v ι2 H2 k2 r2 zr2 => k v ι2 H2 (k1.trans k2) r2 zr2⟩
      | false => rw [if_neg Bool.false_ne_true]; cases e; exact k _ ι1 H1 k1 xbl zr1
    | _ => cases e
theorem pe_orD {rest : List Expr} (ha : PE X a (tev W B fa)) (hb : PE X (.BoolOp .Or (b :: rest) pos) (tev W B fb)) : PE X (.BoolOp .Or (a :: b :: rest) pos) (tev W B (fOr fa fb)) := by
  refine pe_mono (pe_or ha hb) fun σ H Q q => ?_
  obtain ⟨ι, z, d, z', zr, e, k⟩ := q
  unfold fOr at e
  cases ea : fa z with
  | none => rw [ea] at e; cases e
  | some x =>
    rw [ea, Option.bind_some] at e
    obtain ⟨d1, z1⟩ := x
    cases d1 with
    | bl c =>
      refine ⟨ι, z, _, z1, zr, ea, fun v ι1 H1 k1 r1 zr1 => ⟨c, rep_bl r1, ?_⟩⟩
      cases c with
      | false => rw [if_neg Bool.false_ne_true]; exact ⟨ι1, z1, d, z', zr1, e, fun v ι2 H2 k2 r2 zr2 => k v ι2 H2 (k1.trans k2) r2 zr2⟩
      | true => rw [if_pos rfl]; cases e; exact k _ ι1 H1 k1 xbl zr1
    | _ => cases e
theorem pe_notD (ha : PE X a (tev W B fa)) : PE X (.UnaryOp .Not a pos) (tev W B (fNot fa)) := by
  refine pe_mono (pe_not ha) fun σ H Q q => ?_
  obtain ⟨ι, z, d, z', zr, e, k⟩ := q
  unfold fNot at e
  cases ea : fa z with
  | none => rw [ea] at e; cases e
  | some x =>
    rw [ea, Option.bind_some] at e
    obtain ⟨d1, z1⟩ := x
    cases d1 with
    | bl c =>
      cases e
      exact ⟨ι, z, _, z1, zr, ea, fun v ι1 H1 k1 r1 zr1 => ⟨c, rep_bl r1, k _ ι1 H1 k1 xbl zr1⟩⟩
    | _ => cases e
/-- tests -/
def gAnd (fa fb : EvT) : EvT := fun z => (fa z).bind fun x => if x.1 then fb x.2 else some (false, x.2)
def gOr (fa fb : EvT) : EvT := fun z => (fa z).bind fun x => if x.1 then some (true, x.2) else fb x.2
def gNot (fa : EvT) : EvT := fun z => (fa z).map fun x => (!x.1, x.2)
variable {ga gb gc : EvT}
theorem pw_andD {rest : List Expr} (ha : PT X a (ttv W B ga)) (hb : PW X (.BoolOp .And (b :: rest) pos) (ttv W B gb)) : PW X (.BoolOp .And (a :: b :: rest) pos) (ttv W B (gAnd ga gb)) := by
  refine ⟨fun wh pins s σ H Q I q => (pw_and ha hb).run wh pins s σ H Q I ?_⟩
  obtain ⟨ι, z, d, z', zr, e, k⟩ := q
  unfold gAnd at e
  cases ea : ga z with
  | none => rw [ea] at e; cases e
  | some x =>
    rw [ea, Option.bind_some] at e
    obtain ⟨c, z1⟩ := x
    refine ⟨ι, z, c, z1, zr, ea, fun ι1 H1 k1 zr1 => ?_⟩
    cases c with
    | true => rw [if_pos rfl]; exact ⟨ι1, z1, d, z', zr1, e, fun ι2 H2 k2 zr2 => k ι2 H2 (k1.trans k2) zr2⟩
    | false => rw [if_neg Bool.false_ne_true]; cases e; exact k ι1 H1 k1 zr1
theorem pw_orD {rest : List Expr} (ha : PT X a (ttv W B ga)) (hb : PW X (.BoolOp .Or (b :: rest) pos) (ttv W B gb)) : PW X (.BoolOp .Or (a :: b :: rest) pos) (ttv W B (gOr ga gb)) := by
  refine ⟨fun wh pins s σ H Q I q => (pw_or ha hb).run wh pins s σ H Q I ?_⟩
  obtain ⟨ι, z, d, z', zr, e, k⟩ := q
  unfold gOr at e
  cases ea : ga z with
  | none => rw [ea] at e; cases e
  | some x =>
    rw [ea, Option.bind_some] at e
    obtain ⟨c, z1⟩ := x
    refine ⟨ι, z, c, z1, zr, ea, fun ι1 H1 k1 zr1 => ?_⟩
    cases c with
    | false => rw [if_neg Bool.false_ne_true]; exact ⟨ι1, z1, d, z', zr1, e, fun ι2 H2 k2 zr2 => k ι2 H2 (k1.trans k2) zr2⟩
    | true => rw [if_pos rfl]; cases e; exact k ι1 H1 k1 zr1
theorem pt_notD (ha : PT X a (ttv W B ga)) : PT X (.UnaryOp .Not a pos) (ttv W B (gNot ga)) := by
  refine pt_mono (pt_not ha) fun σ H Q q => ?_
  obtain ⟨ι, z, d, z', zr, e, k⟩ := q
  unfold gNot at e
  cases ea : ga z with
  | none => rw [ea] at e; cases e
  | some x => rw [ea] at e; cases e; exact ⟨ι, z, x.1, x.2, zr, ea, fun ι1 H1 k1 zr1 => k ι1 H1 k1 zr1⟩
def fIf (ga : EvT) (fa fb : Ev) : Ev := fun z => (ga z).bind fun x => if x.1 then fa x.2 else fb x.2
theorem pe_ifD {t : Expr} (ht : PT X t (ttv W B ga)) (ha : PE X a (tev W B fa)) (hb : PE X b (tev W B fb)) : PE X (.IfExp t a b pos) (tev W B (fIf ga fa fb)) := by
  refine pe_mono (pe_ifExp ht ha hb) fun σ H Q q => ?_
  obtain ⟨ι, z, d, z', zr, e, k⟩ := q
  unfold fIf at e
  cases ea : ga z with
  | none => rw [ea] at e; cases e
  | some x =>
    rw [ea, Option.bind_some] at e
    obtain ⟨c, z1⟩ := x
    refine ⟨ι, z, c, z1, zr, ea, fun ι1 H1 k1 zr1 => ?_⟩
    cases c with
    | true => rw [if_pos rfl]; exact ⟨ι1, z1, d, z', zr1, e, fun v ι2 H2 k2 r2 zr2 => k v ι2 H2 (k1.trans k2) r2 zr2⟩
    | false => rw [if_neg Bool.false_ne_true]; exact ⟨ι1, z1, d, z', zr1, e, fun v ι2 H2 k2 r2 zr2 => k v ι2 H2 (k1.trans k2) r2 zr2⟩
end
end DE
set_option Elab.async false
set_option linter.all false
set_option maxRecDepth 100000
set_option maxHeartbeats 4000000
namespace DE
open PySem PySem.Spec PyProof.Rows L2
structure FnG (P : Program) (w : World) (K : PySem.W.Frag) (mg : Str → Option Value) (base : Heap) (k : Nat) (f : Addr) (fd : FuncData) (ps : List Str) (sp : Sp) : Prop where
  len : ∀ vs H Q E, sp vs H Q E → vs.length = ps.length
  run : ∀ (A : Around) (outer : List Env) (s : Shared) (H : Hp) (args : Args) (us : List Value) (vs : List V) (Q : VK) (E : XK), Room k A → A.guards = some [] → Env0 P w K mg base A outer s H → BindsTo s fd args (ps.zip us) → Vals vs us → sp vs H Q E →
    codeAny (model P w) A (.call (.ref f) args) (CR L2.CX0 outer P w H s Q E) s
section
variable {P : Program} {w : World} {K : PySem.W.Frag} {mg : Str → Option Value} {base : Heap} {j k : Nat} {f : Addr} {fd : FuncData} {ps : List Str} {sp sp' : Sp}
theorem FnG.mono (F : FnG P w K mg base j f fd ps sp) (h : j ≤ k) : FnG P w K mg base k f fd ps sp := ⟨F.len, fun A outer s H args us vs Q E hr => F.run A outer s H args us vs Q E (hr.mono h)⟩
theorem FnG.imp (F : FnG P w K mg base k f fd ps sp) (h : ∀ vs H Q E, sp' vs H Q E → sp vs H Q E) : FnG P w K mg base k f fd ps sp' :=
  ⟨fun vs H Q E q => F.len vs H Q E (h _ _ _ _ q), fun A outer s H args us vs Q E hr hg he hb hv hs => F.run A outer s H args us vs Q E hr hg he hb hv (h _ _ _ _ hs)⟩
end
section
variable {X : Cx} {k : Nat} {f C : Addr} {fd : FuncData} {ps ks : List Str} {sp : Sp} {E : XK} {x m : Str} {p pos apos : Pos} {e o : Expr} {es : List Expr} {kws : List Keyword} {ta : TE} {t tk : TA}
  {pins : List (Addr × Obj)} {σ : L2.St} {H : Hp} {s : Shared} {Q : VK} {us ws : List Value} {vs zs : List V}
/-- the callee's end is this body's next state -/
theorem back0 (I : Inv X pins σ H s) {A : Around} {c : Code} (h : codeAny (model X.prog X.w) A c (CR L2.CX0 X.stack X.prog X.w H s Q E) s) : codeAny (model X.prog X.w) A c (fun r s' => match r with | .ok (.ret u) => EP X pins σ Q u s' | .ok _ => False | .error e => X.xe e s') s :=
  codeAny_mono h fun r s' hq => by
    cases r with
    | error e => exact hq.elim
    | ok fl =>
      cases fl with
      | ret u => exact I.after hq
      | _ => exact hq.elim
theorem run_fnG (F : FnG X.prog X.w X.K X.mg X.base k f fd ps sp) (hr : Room k X.A) (hgd : X.A.guards = some []) (hb : Binds X.K fd ps []) (I : Inv X pins σ H s) (r : Vals vs us) (h : sp vs H Q E) :
    wpAny (model X.prog X.w) X.A (call (.ref f) us) (EP X pins σ Q) X.xe s := by
  have hl : (us ++ []).length = ps.length := by rw [List.append_nil, ← r.length]; exact F.len _ _ _ _ h
  have hB := hb s us I.kIn hl
  rw [List.append_nil] at hB
  refine wpAny_call (codeAny_mono (back0 I (F.run X.A X.stack s H ⟨us, []⟩ us vs Q E hr hgd I.env0 hB r h)) fun r s' hq => ?_)
  cases r with
  | error e => exact hq
  | ok fl => cases fl <;> exact hq
theorem pe_callG (F : FnG X.prog X.w X.K X.mg X.base k f fd ps sp) (hr : Room k X.A) (hgd : X.A.guards = some []) (hg : Gl X x) (hm : X.mg x = some (.ref f)) (hk : PySem.W.keepIn X.K (.ref f) = true) (hb : Binds X.K fd ps [])
    (ha : PA X (e :: es) t) (hdb : (x == ("__debug__" : Str)) = false) (he : starEach (e :: es) X.env = (false, eval e X.env) :: starEach es X.env) (hpl : (backTo pos (starEach es X.env)).any (·.1) = false) :
    PE X (.Call (.Name x p) (e :: es) [] pos) (tCall sp [] E t) := by
  refine ⟨fun pins s σ H Q I h => wpAny_Call_Name_kw (ld_glob I hg hm ?_ hdb)⟩
  refine PySem.W.callWith_K (h₀ := X.base) I.ok.mod.kin hk (thn (ha.run pos pins s σ H _ I h) fun us s1 ⟨vs, H1, I1, r, q⟩ => ⟨I1.kIn, ?_⟩) he hpl
  have q : sp (vs ++ []) _ _ _ := q
  rw [List.append_nil] at q
  exact run_fnG F hr hgd hb I1 r q
theorem pe_call0G (F : FnG X.prog X.w X.K X.mg X.base k f fd ps sp) (hr : Room k X.A) (hgd : X.A.guards = some []) (hg : Gl X x) (hm : X.mg x = some (.ref f)) (hk : PySem.W.keepIn X.K (.ref f) = true) (hb : Binds X.K fd ps [])
    (hdb : (x == ("__debug__" : Str)) = false) : PE X (.Call (.Name x p) [] [] pos) (tCall sp [] E tNil) :=
  ⟨fun pins s σ H Q I h => wpAny_Call_Name_kw (ld_glob I hg hm (PySem.W.callWith_K0 I.kIn hk (run_fnG (us := []) F hr hgd hb I .nil h)) hdb)⟩
end
end DE
set_option Elab.async false
set_option linter.all false
set_option maxRecDepth 100000
set_option maxHeartbeats 4000000
namespace DE
open PySem PySem.Spec L2
section
variable {W : Wd} {B : Bs} {ι : List Addr} {H : Hp} {σ : L2.St} {z : Z}
/-- a changing thing at p is put otherwise -/
theorem Kp.at_ {p : Addr} {o o' : HO} (h : H p = some o) (hf : fzn o = false) (hi : ∀ C dx fs, o = .ins C dx fs → p ∈ ι) : Kp ι H ι (upd H p o') :=
  ⟨List.prefix_refl _, fun _ h n => absurd h n, fun b u e s => by
    by_cases hb : b = p
    · subst hb; rw [h] at e; cases e; rw [hf] at s; cases s
    · rw [upd_ne hb]; exact e, fun b C dx fs e n => by
    by_cases hb : b = p
    · subst hb; rw [h] at e; cases e; exact absurd (hi _ _ _ rfl) n
    · rw [upd_ne hb]; exact e, fun b e => by
    by_cases hb : b = p
    · subst hb; rw [upd_same] at e; cases e
    · rw [upd_ne hb] at e; exact e⟩
theorem DRep.off {p : Addr} {o : HO} {v : V} (k : Kp ι H ι (upd H p o)) (hb : B.fr p) : ∀ {dv : DV}, (dv.isOwn = true → v ≠ .ref p) → DRep W B ι H v dv → DRep W B ι (upd H p o) v dv
  | .imm _, _, h => ⟨h.1, h.2.kp k h.1⟩
  | .obj _, _, h => h
  | .own _, n, h => by obtain ⟨l, a, xs, e, x, b, i, r⟩ := h; exact ⟨l, a, xs, e, by rw [upd_ne (fun q => n rfl (by rw [e, q]))]; exact x, b, i, r.kp k⟩
  | .oT _, n, h => by obtain ⟨l, a, xs, e, x, b, i, r⟩ := h; exact ⟨l, a, xs, e, by rw [upd_ne (fun q => n rfl (by rw [e, q]))]; exact x, b, i, r.kp k⟩
  | .oK _, n, h => by obtain ⟨l, a, xs, e, x, b, i, r⟩ := h; exact ⟨l, a, xs, e, by rw [upd_ne (fun q => n rfl (by rw [e, q]))]; exact x, b, i, r.kp k⟩
  | .brw _, n, h => by
    obtain ⟨l, a, xs, e, x, b, m, i, r⟩ := h
    exact ⟨l, a, xs, e, by rw [upd_ne (fun q => by rw [q, hb.1] at b; cases b)]; exact x, b, m, i, r.kp k⟩
/-- .. where p is new -/
theorem ZR.at_fr {p : Addr} {o : HO} (zr : ZR W B ι H σ z) (fr : Fr B ι σ z p) (nt : NTE (H p)) (k : Kp ι H ι (upd H p o)) : ZR W B ι (upd H p o) σ z :=
  ⟨zr.st.same (zr.st.tb.upd nt) k fun a ha u e => by rw [upd_ne (fun q : a = p => fr.i (q ▸ ha))]; exact e, zr.pre, zr.new, fun b u x n => by rw [upd_ne (fun q => by rw [q, fr.b.1] at x; cases x)]; exact zr.keep b u x n, zr.newP, fun b u x => by rw [upd_ne (fun q => by rw [q, fr.b.2] at x; cases x)]; exact zr.keepP b u x, zr.len, fun i dv x => by
    obtain ⟨v, hv, r⟩ := zr.slot i dv x
    exact ⟨v, hv, r.off k fr.b fun ho e => fr.o i dv x ho (by rw [hv, e])⟩, zr.dis⟩
/-- a new thing becomes a cell -/
theorem Kp.cel {p : Addr} (h : ∀ C dx fs, H p ≠ some (.ins C dx fs)) : Kp ι H (ι ++ [p]) H :=
  ⟨List.prefix_append _ _, fun a ha n => by
    rcases List.mem_append.mp ha with q | q
    · exact absurd q n
    · rw [List.mem_singleton] at q; subst q; exact h, fun _ _ e _ => e, fun _ _ _ _ e _ => e, fun _ e => e⟩
theorem StRep.cel {S : Store} {p : Addr} {m : MO} (h : StRep W ι H S) (hp : p ∉ ι) (k : Kp ι H (ι ++ [p]) H) (hm : MRep W (ι ++ [p]) H p m) : StRep W (ι ++ [p]) H (S ++ [m]) where
  tb := h.tb
  len := by simp [h.len]
  nd := by
    rw [List.nodup_append]
    refine ⟨h.nd, by simp, fun a ha b hb => ?_⟩
    rw [List.mem_singleton] at hb; subst hb
    rintro rfl; exact hp ha
  at_ := fun n mo a e1 e2 => by
    by_cases hn : n < S.length
    · rw [List.getElem?_append_left hn] at e1
      rw [List.getElem?_append_left (by rw [← h.len]; exact hn)] at e2
      exact (h.at_ n mo a e1 e2).kp k fun _ e => e
    · have hn' : S.length ≤ n := by omega
      rw [List.getElem?_append_right hn'] at e1
      rw [List.getElem?_append_right (by rw [← h.len]; exact hn'), ← h.len] at e2
      cases q : n - S.length with
      | zero => rw [q] at e1 e2; simp at e1 e2; subst e1; subst e2; exact hm
      | succ j => rw [q] at e1; simp at e1
theorem DRep.cel {p : Addr} {v : V} (k : Kp ι H (ι ++ [p]) H) (hb : B.fr p) : ∀ {dv : DV}, (dv.isOwn = true → v ≠ .ref p) → DRep W B ι H v dv → DRep W B (ι ++ [p]) H v dv
  | .imm _, _, h => ⟨h.1, h.2.kp k h.1⟩
  | .obj _, _, h => h
  | .own _, n, h => by obtain ⟨l, a, xs, e, x, b, i, r⟩ := h; exact ⟨l, a, xs, e, x, b, by simp only [List.mem_append, List.mem_singleton, not_or]; exact ⟨i, fun q => n rfl (by rw [e, q])⟩, r.kp k⟩
  | .oT _, n, h => by obtain ⟨l, a, xs, e, x, b, i, r⟩ := h; exact ⟨l, a, xs, e, x, b, by simp only [List.mem_append, List.mem_singleton, not_or]; exact ⟨i, fun q => n rfl (by rw [e, q])⟩, r.kp k⟩
  | .oK _, n, h => by obtain ⟨l, a, xs, e, x, b, i, r⟩ := h; exact ⟨l, a, xs, e, x, b, by simp only [List.mem_append, List.mem_singleton, not_or]; exact ⟨i, fun q => n rfl (by rw [e, q])⟩, r.kp k⟩
  | .brw _, n, h => by
    obtain ⟨l, a, xs, e, x, b, m, i, r⟩ := h
    exact ⟨l, a, xs, e, x, b, m, by simp only [List.mem_append, List.mem_singleton, not_or]; exact ⟨i, fun q => by rw [q, hb.1] at b; cases b⟩, r.kp k⟩
theorem ZR.cel {p : Addr} {m : MO} (zr : ZR W B ι H σ z) (fr : Fr B ι σ z p) (k : Kp ι H (ι ++ [p]) H) (hm : MRep W (ι ++ [p]) H p m) : ZR W B (ι ++ [p]) H σ (z.1, z.2 ++ [m]) :=
  ⟨zr.st.cel fr.i k hm, zr.pre.trans (List.prefix_append _ _), fun a ha n => by
    rcases List.mem_append.mp ha with q | q
    · exact zr.new a q n
    · rw [List.mem_singleton] at q; subst q; exact fr.b.1, zr.keep, fun a ha => by
    rcases List.mem_append.mp ha with q | q
    · exact zr.newP a q
    · rw [List.mem_singleton] at q; subst q; exact fr.b.2, zr.keepP, zr.len, fun i dv x => by
    obtain ⟨v, hv, r⟩ := zr.slot i dv x
    exact ⟨v, hv, r.cel k fr.b fun ho e => fr.o i dv x ho (by rw [hv, e])⟩, zr.dis⟩
end
section
variable {X : Cx} {W : Wd} {B : Bs} {a b c e : Expr} {fa fb fc : Ev} {pos : Pos}
def fLst (f : EvA) : Ev := fun z => (f z).map fun x => (.lst x.1, x.2)
theorem pe_frzD {f : EvA} (h : PE X e (tfr W B f)) : PE X e (tev W B (fLst f)) := by
  refine ⟨fun pins s σ H Q I q => ?_⟩
  obtain ⟨ι, z, d, z', zr, e1, k⟩ := q
  unfold fLst at e1
  cases ea : f z with
  | none => rw [ea] at e1; cases e1
  | some x =>
    rw [ea] at e1; cases e1
    refine thn (h.run pins s σ H (fun v H' => ∃ p xs ι', v = .ref p ∧ Kp ι H ι' H' ∧ ZR W B ι' H' σ x.2 ∧ RepL W ι' H' x.1 xs ∧ x.1.length ≤ sizeLine ∧ H' p = some (.lst xs) ∧ Fr B ι' σ x.2 p) I
      ⟨ι, z, x.1, x.2, zr, ea, fun p xs ι' H' k1 zr1 r l _ hp fr => ⟨p, xs, ι', rfl, k1, zr1, r, l, hp, fr⟩⟩) fun u s' ⟨v, H', I', rv, p, xs, ι', ev, k1, zr1, r, l, hp, fr⟩ => ?_
    obtain ⟨o, I2⟩ := I'.lock hp trivial
    have k2 : Kp ι' H' ι' (upd H' p (.frz o (.lst xs))) := Kp.at_ hp rfl (fun _ _ _ q => by cases q)
    refine ⟨v, _, I2, rv, k v ι' _ (k1.trans k2) ⟨rfl, ?_⟩ (zr1.at_fr fr (nte_lst hp) k2)⟩
    unfold Rep
    exact ⟨l, p, xs, ev, .inl ⟨o, upd_same⟩, r.kp k2⟩
/-- .. as a cell of the store -/
def fCel (f : EvA) : Ev := fun z => (f z).map fun x => (.han x.2.2.length, (x.2.1, x.2.2 ++ [.lst x.1]))
theorem pe_celD {f : EvA} (h : PE X e (tfr W B f)) : PE X e (tev W B (fCel f)) := by
  refine pe_mono h fun σ H Q q => ?_
  obtain ⟨ι, z, d, z', zr, e1, k⟩ := q
  unfold fCel at e1
  cases ea : f z with
  | none => rw [ea] at e1; cases e1
  | some x =>
    rw [ea] at e1; cases e1
    refine ⟨ι, z, x.1, x.2, zr, ea, fun p xs ι' H' k1 zr1 r l _ hp fr => ?_⟩
    have k2 : Kp ι' H' (ι' ++ [p]) H' := Kp.cel fun C dx fs q => by rw [hp] at q; cases q
    refine k _ (ι' ++ [p]) H' (k1.trans k2) ⟨rfl, ?_⟩ (zr1.cel fr k2 ⟨l, xs, hp, r.kp k2⟩)
    unfold Rep
    exact ⟨p, by rw [zr1.st.len]; simp, rfl⟩
/-- a slot's own list is kept from now on -/
def escD (d : D) (z : Z) : Option (D × Z) := match d with
  | .bor i => (match z.1[i]? with
    | some (some (.own ds)) => some (.lst ds, (z.1.set i (some (.imm (.lst ds))), z.2))
    | _ => none)
  | .brw _ => none
  | d => some (d, z)
def fEsc (f : Ev) : Ev := fun z => (f z).bind fun x => escD x.1 x.2
theorem escD_plain {d d' : D} {z z' : Z} (h : escD d z = some (d', z')) : (d.plain = true ∧ d' = d ∧ z' = z) ∨ ∃ i ds, d = .bor i ∧ z.1[i]? = some (some (.own ds)) ∧ d' = .lst ds ∧ z' = (z.1.set i (some (.imm (.lst ds))), z.2) := by
  cases d with
  | bor i =>
    refine .inr ⟨i, ?_⟩
    have h : (match z.1[i]? with
      | some (some (.own ds)) => some (D.lst ds, ((z.1.set i (some (.imm (.lst ds))), z.2) : Z))
      | _ => none) = some (d', z') := h
    split at h
    · rename_i ds q; cases h; exact ⟨ds, rfl, q, rfl, rfl⟩
    · cases h
  | brw _ => cases h
  | _ => cases h; exact .inl ⟨rfl, rfl, rfl⟩
theorem pe_escD (h : PE X e (tev W B fa)) : PE X e (tev W B (fEsc fa)) := by
  refine ⟨fun pins s σ H Q I q => ?_⟩
  obtain ⟨ι, z, d, z', zr, e1, k⟩ := q
  unfold fEsc at e1
  cases ea : fa z with
  | none => rw [ea] at e1; cases e1
  | some x =>
    rw [ea, Option.bind_some] at e1
    refine thn (h.run pins s σ H (fun v H' => ∃ ι', Kp ι H ι' H' ∧ XRep W ι' H' σ x.1 v ∧ ZR W B ι' H' σ x.2) I ⟨ι, z, x.1, x.2, zr, ea, fun v ι' H' k1 r zr1 => ⟨ι', k1, r, zr1⟩⟩) fun u s' ⟨v, H', I', rv, ι', k1, r, zr1⟩ => ?_
    rcases escD_plain e1 with ⟨p, rfl, rfl⟩ | ⟨i, ds, e2, hi, rfl, rfl⟩
    · exact ⟨v, H', I', rv, k v ι' H' k1 r zr1⟩
    · rw [e2] at r
      have hs : σ[i]? = some (some v) := r
      obtain ⟨w, hw, l, p, xs, ev, hp, hb, hn, rl⟩ := zr1.slot i _ hi
      rw [hs] at hw; cases hw
      obtain ⟨o, I2⟩ := I'.lock hp trivial
      have k2 : Kp ι' H' ι' (upd H' p (.frz o (.lst xs))) := Kp.at_ hp rfl (fun _ _ _ q => by cases q)
      have rp : Rep W ι' (upd H' p (.frz o (.lst xs))) (.lst ds) v := by
        unfold Rep
        exact ⟨l, p, xs, ev, .inl ⟨o, upd_same⟩, rl.kp k2⟩
      refine ⟨v, _, I2, rv, k v ι' _ (k1.trans k2) ⟨rfl, rp⟩ ?_⟩
      have hil : i < x.2.1.length := (List.getElem?_eq_some_iff.mp hi).1
      refine ⟨zr1.st.same (zr1.st.tb.upd (nte_lst hp)) k2 fun a ha u e => by rw [upd_ne (fun q : a = p => hn (q ▸ ha))]; exact e, zr1.pre, zr1.new, fun b u x n => by rw [upd_ne (fun q => by rw [q, hb.1] at x; cases x)]; exact zr1.keep b u x n, zr1.newP, fun b u x => by rw [upd_ne (fun q => by rw [q, hb.2] at x; cases x)]; exact zr1.keepP b u x, by simp [zr1.len], fun j dv hj => ?_, fun j1 j2 dv dv' a' h1 o1 h2 o2 s1 s2 => ?_⟩
      · by_cases hji : j = i
        · subst hji
          simp only [List.getElem?_set_self hil] at hj
          cases hj
          exact ⟨v, hs, rfl, rp⟩
        · simp only [List.getElem?_set_ne (Ne.symm hji)] at hj
          obtain ⟨u', hu', r'⟩ := zr1.slot j dv hj
          refine ⟨u', hu', r'.off k2 hb fun ho e => hji ?_⟩
          exact zr1.dis j i dv _ p hj ho hi rfl (by rw [hu', e]) (by rw [hs, ev])
      · have f : ∀ {j : Nat} {dv : DV}, (x.2.1.set i (some (.imm (.lst ds))))[j]? = some (some dv) → dv.isOwn = true → x.2.1[j]? = some (some dv) := fun {j dv} hj ho => by
          by_cases hji : j = i
          · subst hji
            rw [List.getElem?_set_self hil] at hj
            cases hj; cases ho
          · rw [List.getElem?_set_ne (Ne.symm hji)] at hj
            exact hj
        exact zr1.dis j1 j2 dv dv' a' (f h1 o1) o1 (f h2 o2) o2 s1 s2
def fNil : EvA := fun z => some ([], z)
def fCons (f : Ev) (g : EvA) : EvA := fun z => (f z).bind fun x => (g x.2).map fun y => (x.1 :: y.1, y.2)
theorem pa_nilD : PA X [] (tevA W B fNil) := by
  refine pa_mono pa_nil fun σ H Q q => ?_
  obtain ⟨ι, z, ds, z', zr, e1, k⟩ := q
  cases e1
  exact k [] ι H .refl .nil zr
theorem pa_consD {es : List Expr} {g : EvA} (ha : PE X e (tev W B fa)) (hr : PA X es (tevA W B g)) (hs : starEach (e :: es) X.env = (false, eval e X.env) :: starEach es X.env) : PA X (e :: es) (tevA W B (fCons fa g)) := by
  refine pa_mono (pa_cons ha hr hs) fun σ H Q q => ?_
  obtain ⟨ι, z, ds, z', zr, e1, k⟩ := q
  unfold fCons at e1
  cases ea : fa z with
  | none => rw [ea] at e1; cases e1
  | some x =>
    rw [ea, Option.bind_some] at e1
    cases eb : g x.2 with
    | none => rw [eb] at e1; cases e1
    | some y =>
      rw [eb] at e1; cases e1
      exact ⟨ι, z, x.1, x.2, zr, ea, fun v ι1 H1 k1 r1 zr1 => ⟨ι1, x.2, y.1, y.2, zr1, eb, fun vs ι2 H2 k2 r2 zr2 => k (v :: vs) ι2 H2 (k1.trans k2) (.cons (r1.kp k2) r2) zr2⟩⟩
/-- *e, .. : the items of a list or tuple -/
def itemsOf : D → Option (List D)
  | .lst ds => some ds
  | .tup ds => some ds
  | _ => none
def fStar (f : Ev) (g : EvA) : EvA := fun z => (f z).bind fun x => (rd x.2 x.1).bind fun d => (itemsOf d).bind fun ds => (g x.2).map fun y => (ds ++ y.1, y.2)
theorem RepL.paired {ι : List Addr} {H : Hp} {σ : L2.St} : ∀ {ds : List D} {vs : List V}, RepL W ι H ds vs → Paired (XRep W ι H σ) ds vs
  | [], _, h => by unfold RepL at h; subst h; exact .nil
  | d :: ds, _, h => by
    unfold RepL at h
    obtain ⟨v, r, rfl, p, h1, h2⟩ := h
    exact .cons (XRep.of p h1) h2.paired
theorem paired_app {α β : Type} {F : α → β → Prop} : ∀ {l1 l2 : List α} {m1 m2 : List β}, Paired F l1 m1 → Paired F l2 m2 → Paired F (l1 ++ l2) (m1 ++ m2)
  | _, _, _, _, .nil, h => h
  | _, _, _, _, .cons r t, h => .cons r (paired_app t h)
theorem pa_starD (hK : X.K = W.K) {es : List Expr} {g : EvA} {p : Pos} (ha : PE X e (tev W B fa)) (hr : PA X es (tevA W B g)) (hs : starEach (.Starred e p :: es) X.env = (true, eval e X.env) :: starEach es X.env) : PA X (.Starred e p :: es) (tevA W B (fStar fa g)) := by
  refine pa_mono (StX.pa_star ha hr hs) fun σ H Q q => ?_
  obtain ⟨ι, z, ds, z', zr, e1, k⟩ := q
  unfold fStar at e1
  cases ea : fa z with
  | none => rw [ea] at e1; cases e1
  | some x =>
    rw [ea, Option.bind_some] at e1
    cases e2 : rd x.2 x.1 with
    | none => rw [e2] at e1; cases e1
    | some d =>
      rw [e2, Option.bind_some] at e1
      cases e3 : itemsOf d with
      | none => rw [e3] at e1; cases e1
      | some ds1 =>
        rw [e3, Option.bind_some] at e1
        cases eb : g x.2 with
        | none => rw [eb] at e1; cases e1
        | some y =>
          rw [eb] at e1; cases e1
          refine ⟨ι, z, x.1, x.2, zr, ea, fun v ι1 H1 k1 r1 zr1 => ?_⟩
          have rr := rd_rep zr1 r1 e2
          have fin : ∀ a xs, v = .ref a → (SqT X.K H1 a xs ∨ SqL X.K H1 a xs) → RepL W ι1 H1 ds1 xs → ∃ a xs, v = V.ref a ∧ (SqT X.K H1 a xs ∨ SqL X.K H1 a xs) ∧ tevA W B g σ H1 (fun ys H2 => Q (xs ++ ys) H2) := fun a xs ev sq rl =>
            ⟨a, xs, ev, sq, ι1, x.2, y.1, y.2, zr1, eb, fun vs ι2 H2 k2 r2 zr2 => k _ ι2 H2 (k1.trans k2) (paired_app (rl.kp k2).paired r2) zr2⟩
          cases d with
          | lst l =>
            cases e3
            obtain ⟨_, a, xs, ev, hx, rl⟩ := rr
            exact fin a xs ev (.inr (hK ▸ hx.sq)) rl
          | tup l =>
            cases e3
            obtain ⟨_, hh⟩ := rr
            unfold Rep at hh
            obtain ⟨_, a, xs, ev, hx, rl⟩ := hh
            exact fin a xs ev (.inl (SqT.of hx)) rl
          | _ => cases e3
def okLen (ds : List D) : Bool := Nat.ble ds.length 16777216
theorem okLen_le {ds : List D} (h : okLen ds = true) : ds.length ≤ sizeLine := by rw [sizeLine_eq]; exact Nat.le_of_ble_eq_true h
def fDsp (g : EvA) : EvA := fun z => (g z).bind fun x => if x.1.all D.plain && okLen x.1 then some x else none
def fTup (g : EvA) : Ev := fun z => (g z).bind fun x => if x.1.all D.plain && okLen x.1 then some (.tup x.1, x.2) else none
theorem paired_repL {ι : List Addr} {H : Hp} {σ : L2.St} : ∀ {ds : List D} {vs : List V}, Paired (XRep W ι H σ) ds vs → ds.all D.plain = true → RepL W ι H ds vs
  | _, _, .nil, _ => .nil
  | _, _, .cons r t, h => by
    rw [List.all_cons, Bool.and_eq_true] at h
    exact .cons h.1 (r.rep h.1) (paired_repL t h.2)
theorem pe_tupD {es : List Expr} {g : EvA} {n : Nat} (h : PA X es (tevA W B g)) : PE X (.Tuple es n pos) (tev W B (fTup g)) := by
  refine pe_mono (pe_tup h) fun σ H Q q => ?_
  obtain ⟨ι, z, d, z', zr, e1, k⟩ := q
  unfold fTup at e1
  cases ea : g z with
  | none => rw [ea] at e1; cases e1
  | some x =>
    rw [ea, Option.bind_some] at e1
    split at e1
    · rename_i hc
      rw [Bool.and_eq_true] at hc
      cases e1
      refine ⟨ι, z, x.1, x.2, zr, ea, fun vs ι1 H1 k1 r1 zr1 => ?_⟩
      have rl := paired_repL r1 hc.1
      have l := okLen_le hc.2
      refine ⟨by rw [← rl.length]; exact l, fun p hp => k _ ι1 _ (k1.trans (Kp.alloc hp)) ⟨rfl, ?_⟩ (zr1.alloc hp)⟩
      unfold Rep
      exact ⟨l, p, vs, rfl, upd_same, rl.kp (Kp.alloc hp)⟩
    · cases e1
theorem pe_dspD {es : List Expr} {g : EvA} (h : PA X es (tevA W B g)) : PE X (.List es pos) (tfr W B (fDsp g)) := by
  refine pe_mono (pe_lst h) fun σ H Q q => ?_
  obtain ⟨ι, z, d, z', zr, e1, k⟩ := q
  unfold fDsp at e1
  cases ea : g z with
  | none => rw [ea] at e1; cases e1
  | some x =>
    rw [ea, Option.bind_some] at e1
    split at e1
    · rename_i hc
      rw [Bool.and_eq_true] at hc
      cases e1
      refine ⟨ι, z, d, z', zr, ea, fun vs ι1 H1 k1 r1 zr1 => ?_⟩
      have rl := paired_repL r1 hc.1
      have l := okLen_le hc.2
      exact ⟨by rw [← rl.length]; exact l, fun p hp => k p vs ι1 _ (k1.trans (Kp.alloc hp)) (zr1.alloc hp) (rl.kp (Kp.alloc hp)) l (k1.th p hp) upd_same (Fr.of zr1 hp)⟩
    · cases e1
abbrev Fn := List D → Store → Option (D × Store)
/-- between a call and its end -/
structure CKp (ι : List Addr) (H : Hp) (ι' : List Addr) (H' : Hp) : Prop where
  pre : ι <+: ι'
  new : ∀ a ∈ ι', a ∉ ι → H a = none
  keep : ∀ b o, H b = some o → b ∉ ι → Kept o (H' b)
/-- the promise of a def that computes g on data -/
def spD (W : Wd) (n : Nat) (g : Fn) : Sp := fun vs H Q _ => ∃ ι S ds d S', ds.length = n ∧ Paired (Rep W ι H) ds vs ∧ StRep W ι H S ∧ g ds S = some (d, S') ∧ ∀ v ι' H', CKp ι H ι' H' → StRep W ι' H' S' → d.plain = true → Rep W ι' H' d v → Q v H'
def lendD (z : Z) : D → Option D
  | .bor i => (match z.1[i]? with
    | some (some (.own ds)) => some (.brw ds)
    | some (some (.brw ds)) => some (.brw ds)
    | _ => none)
  | .brw _ => none
  | d => some d
def lendAll (z : Z) : List D → Option (List D)
  | [] => some []
  | d :: ds => (lendD z d).bind fun x => (lendAll z ds).map fun r => x :: r
theorem lendD_rep {ι : List Addr} {H : Hp} {σ : L2.St} {z : Z} (zr : ZR W B ι H σ z) {d d' : D} {v : V} (h : XRep W ι H σ d v) (e : lendD z d = some d') : Rep W ι H d' v := by
  cases d with
  | bor i =>
    have hs : σ[i]? = some (some v) := h
    have e : (match z.1[i]? with
      | some (some (.own ds)) => some (D.brw ds)
      | some (some (.brw ds)) => some (D.brw ds)
      | _ => none) = some d' := e
    split at e
    · rename_i ds q
      cases e
      obtain ⟨u, hu, l, a, xs, ea, ha, _, n, r⟩ := zr.slot i _ q
      rw [hs] at hu; cases hu
      unfold Rep
      exact ⟨l, a, xs, ea, ha, n, r⟩
    · rename_i ds q
      cases e
      obtain ⟨u, hu, l, a, xs, ea, ha, _, _, n, r⟩ := zr.slot i _ q
      rw [hs] at hu; cases hu
      unfold Rep
      exact ⟨l, a, xs, ea, ha, n, r⟩
    · cases e
  | brw _ => cases e
  | _ => cases e; exact h.2
theorem lendAll_rep {ι : List Addr} {H : Hp} {σ : L2.St} {z : Z} (zr : ZR W B ι H σ z) : ∀ {ds ds' : List D} {vs : List V}, Paired (XRep W ι H σ) ds vs → lendAll z ds = some ds' → Paired (Rep W ι H) ds' vs
  | _, _, _, .nil, e => by cases e; exact .nil
  | d :: ds, _, _, .cons r t, e => by
    unfold lendAll at e
    cases e1 : lendD z d with
    | none => rw [e1] at e; cases e
    | some x =>
      rw [e1, Option.bind_some] at e
      cases e2 : lendAll z ds with
      | none => rw [e2] at e; cases e
      | some y => rw [e2] at e; cases e; exact .cons (lendD_rep zr r e1) (lendAll_rep zr t e2)
def fCall (n : Nat) (g : Fn) (f : EvA) : Ev := fun z => (f z).bind fun x => (lendAll x.2 x.1).bind fun ds => if ds.length = n then (g ds x.2.2).map fun r => (r.1, (x.2.1, r.2)) else none
/-- behind a call -/
theorem CKp.kp {ι ι' : List Addr} {H H' : Hp} {S' : Store} (k : CKp ι H ι' H') (st : StRep W ι' H' S') (hfz : ∀ a ∈ ι, ∃ o, H a = some o ∧ fzn o = false) : Kp ι H ι' H' where
  pre := k.pre
  new := fun a ha n C dx fs e => by rw [k.new a ha n] at e; cases e
  fz := fun b o e s => (k.keep b o e fun hb => by
    obtain ⟨o', e', f'⟩ := hfz b hb
    rw [e] at e'; cases e'; rw [s] at f'; cases f').eq (by cases o <;> first | rfl | cases s)
  ins := fun b C dx fs e n => (k.keep b _ e n).eq rfl
  th := fun b e => by
    cases q : H b with
    | none => rfl
    | some o =>
      by_cases hb : b ∈ ι
      · obtain ⟨t, ht⟩ := k.pre
        obtain ⟨o', e', _⟩ := st.mem (a := b) (by rw [← ht]; exact List.mem_append_left _ hb)
        rw [e] at e'; cases e'
      · have := k.keep b o q hb
        rw [e] at this; exact this.ne.elim
theorem DRep.ckp {ι ι' : List Addr} {H H' : Hp} {v : V} (k : Kp ι H ι' H') (c : CKp ι H ι' H') : ∀ {dv : DV}, DRep W B ι H v dv → DRep W B ι' H' v dv
  | .imm _, h => ⟨h.1, h.2.kp k h.1⟩
  | .obj _, h => h
  | .own _, h => by obtain ⟨l, a, xs, e, x, b, i, r⟩ := h; exact ⟨l, a, xs, e, (c.keep a _ x i).eq rfl, b, (fun q => by rw [c.new a q i] at x; cases x), r.kp k⟩
  | .oT _, h => by obtain ⟨l, a, xs, e, x, b, i, r⟩ := h; exact ⟨l, a, xs, e, (c.keep a _ x i).eq rfl, b, (fun q => by rw [c.new a q i] at x; cases x), r.kp k⟩
  | .oK _, h => by obtain ⟨l, a, xs, e, x, b, i, r⟩ := h; exact ⟨l, a, xs, e, (c.keep a _ x i).eq rfl, b, (fun q => by rw [c.new a q i] at x; cases x), r.kp k⟩
  | .brw _, h => by obtain ⟨l, a, xs, e, x, b, n, i, r⟩ := h; exact ⟨l, a, xs, e, (c.keep a _ x i).eq rfl, b, n, (fun q => by rw [c.new a q i] at x; cases x), r.kp k⟩
theorem ZR.call {ι ι' : List Addr} {H H' : Hp} {σ : L2.St} {z : Z} {S' : Store} (zr : ZR W B ι H σ z) (c : CKp ι H ι' H') (st : StRep W ι' H' S') : ZR W B ι' H' σ (z.1, S') := by
  have k : Kp ι H ι' H' := c.kp st fun a ha => zr.st.mem ha
  refine ⟨st, zr.pre.trans c.pre, fun a ha n => ?_, fun b o e n => ?_, fun a ha => ?_, fun b o e => ?_, zr.len, fun i dv x => ?_, zr.dis⟩
  · by_cases hi : a ∈ ι
    · exact zr.new a hi n
    · have hn := c.new a ha hi
      cases q : B.H a with
      | none => rfl
      | some o =>
        obtain ⟨u, hu⟩ := (zr.keep a o q n).some_
        rw [hu] at hn; cases hn
  · refine (zr.keep b o e n).trans fun u hu => c.keep b u hu fun hb => ?_
    rw [zr.new b hb n] at e; cases e
  · by_cases hi : a ∈ ι
    · exact zr.newP a hi
    · have hn := c.new a ha hi
      cases q : B.P a with
      | none => rfl
      | some o =>
        obtain ⟨u, hu⟩ := (zr.keepP a o q).some_
        rw [hu] at hn; cases hn
  · refine (zr.keepP b o e).trans fun u hu => c.keep b u hu fun hb => ?_
    rw [zr.newP b hb] at e; cases e
  · obtain ⟨v, hv, r⟩ := zr.slot i dv x
    exact ⟨v, hv, r.ckp k c⟩
theorem tev_call {n : Nat} {g : Fn} {f : EvA} {E : XK} (σ : L2.St) (H : Hp) (Q : VK) (q : tev W B (fCall n g f) σ H Q) : tCall (spD W n g) [] E (tevA W B f) σ H Q := by
  obtain ⟨ι, z, d, z', zr, e1, k⟩ := q
  unfold fCall at e1
  cases ea : f z with
  | none => rw [ea] at e1; cases e1
  | some x =>
    rw [ea, Option.bind_some] at e1
    cases e2 : lendAll x.2 x.1 with
    | none => rw [e2] at e1; cases e1
    | some ds =>
      rw [e2, Option.bind_some] at e1
      split at e1
      · rename_i hn
        cases e3 : g ds x.2.2 with
        | none => rw [e3] at e1; cases e1
        | some r =>
          rw [e3] at e1; cases e1
          refine ⟨ι, z, x.1, x.2, zr, ea, fun vs ι1 H1 k1 r1 zr1 => ?_⟩
          show spD W n g (vs ++ []) H1 Q E
          rw [List.append_nil]
          refine ⟨ι1, x.2.2, ds, r.1, r.2, hn, lendAll_rep zr1 r1 e2, zr1.st, e3, fun v ι2 H2 c2 st2 p rp => ?_⟩
          exact k v ι2 H2 (k1.trans (c2.kp st2 fun a ha => zr1.st.mem ha)) (XRep.of p rp) (zr1.call c2 st2)
      · cases e1
/-- a def under a name -/
structure Cal (P : Program) (w : World) (K : PySem.W.Frag) (mg : Str → Option Value) (base : Heap) (W : Wd) (k : Nat) (x : Str) (n : Nat) (g : Fn) : Prop where
  ex : ∃ (f : Addr) (fd : FuncData) (ps : List Str), FnG P w K mg base k f fd ps (spD W n g) ∧ mg x = some (.ref f) ∧ PySem.W.keepIn K (.ref f) = true ∧ Binds K fd ps []
theorem pe_callD {n k j : Nat} {g : Fn} {f : EvA} {x : Str} {es : List Expr} {p : Pos} (cl : Cal X.prog X.w X.K X.mg X.base W k x n g) (hr : Room j X.A) (hgd : X.A.guards = some []) (hk : k ≤ j) (hg : Gl X x) (ha : PA X (e :: es) (tevA W B f)) (hdb : (x == ("__debug__" : Str)) = false)
    (he : starEach (e :: es) X.env = (false, eval e X.env) :: starEach es X.env) (hpl : (backTo pos (starEach es X.env)).any (·.1) = false) : PE X (.Call (.Name x p) (e :: es) [] pos) (tev W B (fCall n g f)) := by
  obtain ⟨fa, fd, ps, F, hm, kp, b⟩ := cl.ex
  exact pe_mono (pe_callG F (hr.mono hk) hgd hg hm kp b ha hdb he hpl) (tev_call (E := fun _ _ _ => False))
theorem pe_call0D {n k j : Nat} {g : Fn} {x : Str} {p : Pos} (cl : Cal X.prog X.w X.K X.mg X.base W k x n g) (hr : Room j X.A) (hgd : X.A.guards = some []) (hk : k ≤ j) (hg : Gl X x) (hdb : (x == ("__debug__" : Str)) = false) : PE X (.Call (.Name x p) [] [] pos) (tev W B (fCall n g fNil)) := by
  obtain ⟨fa, fd, ps, F, hm, kp, b⟩ := cl.ex
  refine pe_mono (pe_call0G (E := fun _ _ _ => False) F (hr.mono hk) hgd hg hm kp b hdb) fun σ H Q q => ?_
  have h := tev_call (E := fun _ _ _ => False) σ H Q q
  obtain ⟨ι, z, ds, z', zr, e1, k⟩ := h
  cases e1
  exact k [] ι H .refl .nil zr
def rdAll (z : Z) : List D → Option (List D)
  | [] => some []
  | d :: ds => (rd z d).bind fun x => (rdAll z ds).map fun r => x :: r
theorem rdAll_rep {ι : List Addr} {H : Hp} {σ : L2.St} {z : Z} (zr : ZR W B ι H σ z) : ∀ {ds ds' : List D} {vs : List V}, Paired (XRep W ι H σ) ds vs → rdAll z ds = some ds' → Paired (RRep W ι H) ds' vs
  | _, _, _, .nil, e => by cases e; exact .nil
  | d :: ds, _, _, .cons r t, e => by
    unfold rdAll at e
    cases e1 : rd z d with
    | none => rw [e1] at e; cases e
    | some x =>
      rw [e1, Option.bind_some] at e
      cases e2 : rdAll z ds with
      | none => rw [e2] at e; cases e
      | some y => rw [e2] at e; cases e; exact .cons (rd_rep zr r e1) (rdAll_rep zr t e2)
def fBc (h : List D → Option D) (f : EvA) : Ev := fun z => (f z).bind fun x => (rdAll x.2 x.1).bind fun ds => (h ds).map fun d => (d, x.2)
def BcOk (W : Wd) (r : List V → Hp → VK → Prop) (h : List D → Option D) : Prop := ∀ ι H ds vs d Q, h ds = some d → Paired (RRep W ι H) ds vs → (∀ u H', (∀ b o, H b = some o → H' b = some o) → d.plain = true → Rep W ι H' d u → Q u H') → r vs H Q
theorem tev_bc {r : List V → Hp → VK → Prop} {h : List D → Option D} {f : EvA} (ok : BcOk W r h) (σ : L2.St) (H : Hp) (Q : VK) (q : tev W B (fBc h f) σ H Q) : tCB r (tevA W B f) σ H Q := by
  obtain ⟨ι, z, d, z', zr, e1, k⟩ := q
  unfold fBc at e1
  cases ea : f z with
  | none => rw [ea] at e1; cases e1
  | some x =>
    rw [ea, Option.bind_some] at e1
    cases e2 : rdAll x.2 x.1 with
    | none => rw [e2] at e1; cases e1
    | some ds =>
      rw [e2, Option.bind_some] at e1
      cases e3 : h ds with
      | none => rw [e3] at e1; cases e1
      | some d' =>
        rw [e3] at e1; cases e1
        refine ⟨ι, z, x.1, x.2, zr, ea, fun vs ι1 H1 k1 r1 zr1 => ?_⟩
        exact ok ι1 H1 ds vs d Q e3 (rdAll_rep zr1 r1 e2) fun u H' sm p rp => k u ι1 H' (k1.trans (Kp.same sm)) (XRep.of p rp) (zr1.same sm)
theorem pe_bcD {id : String} {r : List V → Hp → VK → Prop} {h : List D → Option D} {f : EvA} {x : Str} {es : List Expr} {p : Pos} (hc : CallR X (.builtin id) r) (ok : BcOk W r h) (hg : Gl X x) (hm : X.mg x = none) (hv : bootBuiltins x = some (.builtin id)) (ha : PA X (e :: es) (tevA W B f)) (hn : x ≠ "__name__") (hdb : (x == ("__debug__" : Str)) = false)
    (he : starEach (e :: es) X.env = (false, eval e X.env) :: starEach es X.env) (hpl : (backTo pos (starEach es X.env)).any (·.1) = false) : PE X (.Call (.Name x p) (e :: es) [] pos) (tev W B (fBc h f)) :=
  pe_mono (pe_callB hc hg hm hv ha hn hdb he hpl) (tev_bc ok)
theorem pe_btD {id : String} {r : List V → Hp → VK → Prop} {h : List D → Option D} {f : EvA} {x : Str} {es : List Expr} {p : Pos} (hc : CallR X (.type id) r) (ok : BcOk W r h) (hg : Gl X x) (hm : X.mg x = none) (hv : bootBuiltins x = some (.type id)) (ha : PA X (e :: es) (tevA W B f)) (hn : x ≠ "__name__") (hdb : (x == ("__debug__" : Str)) = false)
    (he : starEach (e :: es) X.env = (false, eval e X.env) :: starEach es X.env) (hpl : (backTo pos (starEach es X.env)).any (·.1) = false) : PE X (.Call (.Name x p) (e :: es) [] pos) (tev W B (fBc h f)) :=
  pe_mono (pe_callTy hc hg hm hv ha hn hdb he hpl) (tev_bc ok)
/-- .. a fresh list out -/
def fBl (h : List D → Option (List D)) (f : EvA) : EvA := fun z => (f z).bind fun x => (rdAll x.2 x.1).bind fun ds => (h ds).map fun d => (d, x.2)
def BlOk (W : Wd) (r : List V → Hp → VK → Prop) (h : List D → Option (List D)) : Prop := ∀ ι H ds vs d Q, h ds = some d → Paired (RRep W ι H) ds vs → (∀ p xs, H p = none → d.length ≤ sizeLine → RepL W ι H d xs → Q (.ref p) (upd H p (.lst xs))) → r vs H Q
theorem tfr_bl {r : List V → Hp → VK → Prop} {h : List D → Option (List D)} {f : EvA} (ok : BlOk W r h) (σ : L2.St) (H : Hp) (Q : VK) (q : tfr W B (fBl h f) σ H Q) : tCB r (tevA W B f) σ H Q := by
  obtain ⟨ι, z, d, z', zr, e1, k⟩ := q
  unfold fBl at e1
  cases ea : f z with
  | none => rw [ea] at e1; cases e1
  | some x =>
    rw [ea, Option.bind_some] at e1
    cases e2 : rdAll x.2 x.1 with
    | none => rw [e2] at e1; cases e1
    | some ds =>
      rw [e2, Option.bind_some] at e1
      cases e3 : h ds with
      | none => rw [e3] at e1; cases e1
      | some d' =>
        rw [e3] at e1; cases e1
        refine ⟨ι, z, x.1, x.2, zr, ea, fun vs ι1 H1 k1 r1 zr1 => ?_⟩
        exact ok ι1 H1 ds vs d Q e3 (rdAll_rep zr1 r1 e2) fun p xs hp l rl => k p xs ι1 _ (k1.trans (Kp.alloc hp)) (zr1.alloc hp) (rl.kp (Kp.alloc hp)) l (k1.th p hp) upd_same (Fr.of zr1 hp)
theorem pe_blD {id : String} {r : List V → Hp → VK → Prop} {h : List D → Option (List D)} {f : EvA} {x : Str} {es : List Expr} {p : Pos} (hc : CallR X (.builtin id) r) (ok : BlOk W r h) (hg : Gl X x) (hm : X.mg x = none) (hv : bootBuiltins x = some (.builtin id)) (ha : PA X (e :: es) (tevA W B f)) (hn : x ≠ "__name__") (hdb : (x == ("__debug__" : Str)) = false)
    (he : starEach (e :: es) X.env = (false, eval e X.env) :: starEach es X.env) (hpl : (backTo pos (starEach es X.env)).any (·.1) = false) : PE X (.Call (.Name x p) (e :: es) [] pos) (tfr W B (fBl h f)) :=
  pe_mono (pe_callB hc hg hm hv ha hn hdb he hpl) (tfr_bl ok)
theorem pe_bltD {id : String} {r : List V → Hp → VK → Prop} {h : List D → Option (List D)} {f : EvA} {x : Str} {es : List Expr} {p : Pos} (hc : CallR X (.type id) r) (ok : BlOk W r h) (hg : Gl X x) (hm : X.mg x = none) (hv : bootBuiltins x = some (.type id)) (ha : PA X (e :: es) (tevA W B f)) (hn : x ≠ "__name__") (hdb : (x == ("__debug__" : Str)) = false)
    (he : starEach (e :: es) X.env = (false, eval e X.env) :: starEach es X.env) (hpl : (backTo pos (starEach es X.env)).any (·.1) = false) : PE X (.Call (.Name x p) (e :: es) [] pos) (tfr W B (fBl h f)) :=
  pe_mono (pe_callTy hc hg hm hv ha hn hdb he hpl) (tfr_bl ok)
end
end DE
set_option Elab.async false
set_option linter.all false
set_option maxRecDepth 100000
set_option maxHeartbeats 4000000
namespace DE
open PySem PySem.Spec L2
/-- data, or a fresh list -/
def tmx (W : Wd) (B : Bs) (f : Ev) : TE := fun σ H Q => ∃ ι z d z', ZR W B ι H σ z ∧ f z = some (d, z') ∧ (∀ v ι' H', Kp ι H ι' H' → XRep W ι' H' σ d v → ZR W B ι' H' σ z' → Q v H') ∧
  ∀ ds p xs ι' H', d = .lst ds → Kp ι H ι' H' → ZR W B ι' H' σ z' → RepL W ι' H' ds xs → ds.length ≤ sizeLine → H' p = some (.lst xs) → Fr B ι' σ z' p → Q (.ref p) H'
section
variable {X : Cx} {W : Wd} {B : Bs} {a b c e : Expr} {fa fb fc : Ev} {pos : Pos}
theorem pe_mixD {f : Ev} (h : PE X e (tmx W B f)) : PE X e (tev W B f) := by
  refine ⟨fun pins s σ H Q I q => ?_⟩
  obtain ⟨ι, z, d, z', zr, e1, k⟩ := q
  refine thn (h.run pins s σ H (fun v H' => (∃ ι', Kp ι H ι' H' ∧ XRep W ι' H' σ d v ∧ ZR W B ι' H' σ z') ∨ ∃ ds p xs ι', d = .lst ds ∧ v = .ref p ∧ Kp ι H ι' H' ∧ ZR W B ι' H' σ z' ∧ RepL W ι' H' ds xs ∧ ds.length ≤ sizeLine ∧ H' p = some (.lst xs) ∧ Fr B ι' σ z' p) I
    ⟨ι, z, d, z', zr, e1, fun v ι' H' k1 r zr1 => .inl ⟨ι', k1, r, zr1⟩, fun ds p xs ι' H' ed k1 zr1 r l hp fr => .inr ⟨ds, p, xs, ι', ed, rfl, k1, zr1, r, l, hp, fr⟩⟩) fun u s' ⟨v, H', I', rv, q⟩ => ?_
  rcases q with ⟨ι', k1, r, zr1⟩ | ⟨ds, p, xs, ι', ed, ev, k1, zr1, r, l, hp, fr⟩
  · exact ⟨v, H', I', rv, k v ι' H' k1 r zr1⟩
  · obtain ⟨o, I2⟩ := I'.lock hp trivial
    have k2 : Kp ι' H' ι' (upd H' p (.frz o (.lst xs))) := Kp.at_ hp rfl (fun _ _ _ q => by cases q)
    subst ed
    refine ⟨v, _, I2, rv, k v ι' _ (k1.trans k2) ⟨rfl, ?_⟩ (zr1.at_fr fr (nte_lst hp) k2)⟩
    unfold Rep
    exact ⟨l, p, xs, ev, .inl ⟨o, upd_same⟩, r.kp k2⟩
/-- what is asked of a two-place operation -/
def OpM (W : Wd) (r : R2) (op : D → D → Option D) : Prop := ∀ ι H x y v w d Q, op x y = some d → RRep W ι H x v → RRep W ι H y w → (∀ u H', (∀ b o, H b = some o → H' b = some o) → d.plain = true → Rep W ι H' d u → Q u H') →
  (∀ ds p xs, d = .lst ds → H p = none → ds.length ≤ sizeLine → RepL W ι H ds xs → Q (.ref p) (upd H p (.lst xs))) → r v w H Q
theorem OpOk.m {r : R2} {op : D → D → Option D} (h : OpOk W r op) : OpM W r op := fun ι H x y v w d Q e rx ry k _ => h ι H x y v w d Q e rx ry k
theorem tmx_bin {r : R2} {op : D → D → Option D} (ok : OpM W r op) (σ : L2.St) (H : Hp) (Q : VK) (q : tmx W B (fBin op fa fb) σ H Q) : tOp r (tev W B fa) (tev W B fb) σ H Q := by
  obtain ⟨ι, z, d, z', zr, e, k, kk⟩ := q
  unfold fBin at e
  cases ea : fa z with
  | none => rw [ea] at e; cases e
  | some x =>
    rw [ea, Option.bind_some] at e
    cases eb : fb x.2 with
    | none => rw [eb] at e; cases e
    | some y =>
      rw [eb, Option.bind_some] at e
      cases e1 : rd y.2 x.1 with
      | none => rw [e1] at e; cases e
      | some x' =>
        rw [e1, Option.bind_some] at e
        cases e2 : rd y.2 y.1 with
        | none => rw [e2] at e; cases e
        | some y' =>
          rw [e2, Option.bind_some] at e
          cases e3 : op x' y' with
          | none => rw [e3] at e; cases e
          | some d' =>
            rw [e3] at e; cases e
            refine ⟨ι, z, x.1, x.2, zr, ea, fun v ι1 H1 k1 r1 zr1 => ⟨ι1, x.2, y.1, y.2, zr1, eb, fun w ι2 H2 k2 r2 zr2 => ?_⟩⟩
            refine ok ι2 H2 x' y' v w d Q e3 (rd_rep zr2 (r1.kp k2) e1) (rd_rep zr2 r2 e2) (fun u H' sm p rp => ?_) fun ds p xs ed hp l rl => ?_
            · exact k u ι2 H' ((k1.trans k2).trans (Kp.same sm)) (XRep.of p rp) (zr2.same sm)
            · exact kk ds p xs ι2 _ ed ((k1.trans k2).trans (Kp.alloc hp)) (zr2.alloc hp) (rl.kp (Kp.alloc hp)) l upd_same (Fr.of zr2 hp)
theorem pe_binM {o : Operator} {r : R2} {op : D → D → Option D} (ho : OpR X (binaryOp o) r) (ok : OpM W r op) (ha : PE X a (tev W B fa)) (hb : PE X b (tev W B fb)) : PE X (.BinOp a o b pos) (tev W B (fBin op fa fb)) :=
  pe_mixD (pe_mono (pe_op ho ha hb) (tmx_bin ok))
theorem pe_ixD {r : R2} {op : D → D → Option D} (hr : IxR X r) (ok : OpM W r op) (ha : PE X a (tev W B fa)) (hb : PE X b (tev W B fb)) (hs : PlainIx b) : PE X (.Subscript a b pos) (tev W B (fBin op fa fb)) :=
  pe_mixD (pe_mono (pe_ix hr ha hb hs) (tmx_bin ok))
abbrev EvO := Z → Option (Option Int × Z)
def fNo : EvO := fun z => some (none, z)
def fPart (f : Ev) : EvO := fun z => (f z).bind fun x => match x.1 with
  | .int i => some (some i, x.2)
  | _ => none
def tov (W : Wd) (B : Bs) (f : EvO) : TO := fun σ H Q => ∃ ι z o z', ZR W B ι H σ z ∧ f z = some (o, z') ∧ ∀ ι' H', Kp ι H ι' H' → ZR W B ι' H' σ z' → Q o H'
theorem po_noD : PO X none (tov W B fNo) := ⟨fun pins s σ H Q I q => po_none.run pins s σ H Q I (by
  obtain ⟨ι, z, o, z', zr, e, k⟩ := q
  cases e
  exact k ι H .refl zr)⟩
theorem po_someD (h : PE X e (tev W B fa)) : PO X (some e) (tov W B (fPart fa)) := ⟨fun pins s σ H Q I q => (po_some h).run pins s σ H Q I (by
  obtain ⟨ι, z, o, z', zr, e1, k⟩ := q
  unfold fPart at e1
  cases ea : fa z with
  | none => rw [ea] at e1; cases e1
  | some x =>
    rw [ea, Option.bind_some] at e1
    obtain ⟨d, z1⟩ := x
    cases d with
    | int i =>
      cases e1
      refine ⟨ι, z, _, z1, zr, ea, fun v ι' H' k1 r zr1 => ⟨i, ?_, k ι' H' k1 zr1⟩⟩
      have := r.rep rfl
      unfold Rep at this
      exact this
    | _ => cases e1)⟩
def fSl (op : D → Option Int → Option Int → Option D) (fa : Ev) (fl fu : EvO) : Ev := fun z => (fa z).bind fun x => (fl x.2).bind fun l => (fu l.2).bind fun u => (rd u.2 x.1).bind fun x' => (op x' l.1 u.1).map fun d => (d, u.2)
def SlM (W : Wd) (r : V → Option Int → Option Int → Hp → VK → Prop) (op : D → Option Int → Option Int → Option D) : Prop := ∀ ι H x v lo hi d Q, op x lo hi = some d → RRep W ι H x v → (∀ u H', (∀ b o, H b = some o → H' b = some o) → d.plain = true → Rep W ι H' d u → Q u H') →
  (∀ ds p xs, d = .lst ds → H p = none → ds.length ≤ sizeLine → RepL W ι H ds xs → Q (.ref p) (upd H p (.lst xs))) → r v lo hi H Q
theorem pe_slD {r : V → Option Int → Option Int → Hp → VK → Prop} {op : D → Option Int → Option Int → Option D} {fl fu : EvO} {lo hi : Option Expr} {p2 : Pos} (hr : SlR X r) (ok : SlM W r op) (ha : PE X a (tev W B fa)) (hl : PO X lo (tov W B fl)) (hu : PO X hi (tov W B fu)) : PE X (.Subscript a (.Slice lo hi none p2) pos) (tev W B (fSl op fa fl fu)) := by
  refine pe_mixD (pe_mono (pe_slice hr ha hl hu) fun σ H Q q => ?_)
  obtain ⟨ι, z, d, z', zr, e, k, kk⟩ := q
  unfold fSl at e
  cases ea : fa z with
  | none => rw [ea] at e; cases e
  | some x =>
    rw [ea, Option.bind_some] at e
    cases eb : fl x.2 with
    | none => rw [eb] at e; cases e
    | some l =>
      rw [eb, Option.bind_some] at e
      cases ec : fu l.2 with
      | none => rw [ec] at e; cases e
      | some u =>
        rw [ec, Option.bind_some] at e
        cases e1 : rd u.2 x.1 with
        | none => rw [e1] at e; cases e
        | some x' =>
          rw [e1, Option.bind_some] at e
          cases e3 : op x' l.1 u.1 with
          | none => rw [e3] at e; cases e
          | some d' =>
            rw [e3] at e; cases e
            refine ⟨ι, z, x.1, x.2, zr, ea, fun v ι1 H1 k1 r1 zr1 => ⟨ι1, x.2, l.1, l.2, zr1, eb, fun ι2 H2 k2 zr2 => ⟨ι2, l.2, u.1, u.2, zr2, ec, fun ι3 H3 k3 zr3 => ?_⟩⟩⟩
            have kk3 := (k1.trans k2).trans k3
            refine ok ι3 H3 x' v l.1 u.1 d Q e3 (rd_rep zr3 (r1.kp (k2.trans k3)) e1) (fun u H' sm p rp => ?_) fun ds p xs ed hp l rl => ?_
            · exact k u ι3 H' (kk3.trans (Kp.same sm)) (XRep.of p rp) (zr3.same sm)
            · exact kk ds p xs ι3 _ ed (kk3.trans (Kp.alloc hp)) (zr3.alloc hp) (rl.kp (Kp.alloc hp)) l upd_same (Fr.of zr3 hp)
def tyD (T : String) : D → Bool
  | .str _ => T == "str"
  | .lst _ => T == "list"
  | _ => false
theorem tyD_v {ι : List Addr} {H : Hp} {T : String} {d : D} {v : V} (h : tyD T d = true) (r : RRep W ι H d v) : tyV W.K T v H := by
  cases d with
  | str s =>
    obtain ⟨_, r⟩ := r
    unfold Rep at r
    rw [r.1]
    exact eq_of_beq h
  | lst l =>
    obtain ⟨_, a, xs, e, hx, _⟩ := r
    subst e
    exact .inl ⟨eq_of_beq h, xs, hx.sq⟩
  | _ => cases h
def fMt (T : String) (op : D → List D → Option D) (fa : Ev) (f : EvA) : Ev := fun z => (fa z).bind fun x => (rd x.2 x.1).bind fun x0 => if tyD T x0 then (f x.2).bind fun y => (rd y.2 x.1).bind fun x' => (rdAll y.2 y.1).bind fun ds => (op x' ds).map fun d => (d, y.2) else none
def MtO (W : Wd) (r : V → List V → Hp → VK → Prop) (op : D → List D → Option D) : Prop := ∀ ι H x v ds vs d Q, op x ds = some d → RRep W ι H x v → Paired (RRep W ι H) ds vs → (∀ u H', (∀ b o, H b = some o → H' b = some o) → d.plain = true → Rep W ι H' d u → Q u H') →
  (∀ ds p xs, d = .lst ds → H p = none → ds.length ≤ sizeLine → RepL W ι H ds xs → Q (.ref p) (upd H p (.lst xs))) → r v vs H Q
theorem tmx_mt {T : String} {r : V → List V → Hp → VK → Prop} {op : D → List D → Option D} {f : EvA} (ok : MtO W r op) (σ : L2.St) (H : Hp) (Q : VK) (q : tmx W B (fMt T op fa f) σ H Q) : tBM W.K T r (tev W B fa) (tevA W B f) σ H Q := by
  obtain ⟨ι, z, d, z', zr, e, k, kk⟩ := q
  unfold fMt at e
  cases ea : fa z with
  | none => rw [ea] at e; cases e
  | some x =>
    rw [ea, Option.bind_some] at e
    cases e0 : rd x.2 x.1 with
    | none => rw [e0] at e; cases e
    | some x0 =>
      rw [e0, Option.bind_some] at e
      split at e
      · rename_i ht
        cases eb : f x.2 with
        | none => rw [eb] at e; cases e
        | some y =>
          rw [eb, Option.bind_some] at e
          cases e1 : rd y.2 x.1 with
          | none => rw [e1] at e; cases e
          | some x' =>
            rw [e1, Option.bind_some] at e
            cases e2 : rdAll y.2 y.1 with
            | none => rw [e2] at e; cases e
            | some ds =>
              rw [e2, Option.bind_some] at e
              cases e3 : op x' ds with
              | none => rw [e3] at e; cases e
              | some d' =>
                rw [e3] at e; cases e
                refine ⟨ι, z, x.1, x.2, zr, ea, fun v ι1 H1 k1 r1 zr1 => ⟨tyD_v ht (rd_rep zr1 r1 e0), ι1, x.2, y.1, y.2, zr1, eb, fun vs ι2 H2 k2 r2 zr2 => ?_⟩⟩
                refine ok ι2 H2 x' v ds vs d Q e3 (rd_rep zr2 (r1.kp k2) e1) (rdAll_rep zr2 r2 e2) (fun u H' sm p rp => ?_) fun ds p xs ed hp l rl => ?_
                · exact k u ι2 H' ((k1.trans k2).trans (Kp.same sm)) (XRep.of p rp) (zr2.same sm)
                · exact kk ds p xs ι2 _ ed ((k1.trans k2).trans (Kp.alloc hp)) (zr2.alloc hp) (rl.kp (Kp.alloc hp)) l upd_same (Fr.of zr2 hp)
      · cases e
variable {o : Expr} {es : List Expr} {name : Str} {apos cpos : Pos} {T id : String} {r : V → List V → Hp → VK → Prop}
theorem pe_mtD {op : D → List D → Option D} {f : EvA} (hK : X.K = W.K) (pa : PlainAttrs T) (slot : Slot T name id) (hty : typeOf (.builtin id) = pure (.type "method_descriptor")) (hm : MtR X id r) (ok : MtO W r op) (ho : PE X o (tev W B fa)) (ha : PA X (e :: es) (tevA W B f))
    (hbase : attributeBase o name X.env (eval o X.env) = eval o X.env)
    (hfew : ((backTo cpos (starEach (e :: es) X.env)).all (fun x => !x.1) && (backToKw cpos (keywordEach [] X.env)).all (fun x => x.1.isSome)
      && decide ((e :: es).length + ([] : List Keyword).length + (if ([] : List Keyword).isEmpty then 0 else 1) < 30)) = true)
    (hline : (apos.endLine == cpos.line) = true) (hs : starEach (e :: es) X.env = (false, eval e X.env) :: starEach es X.env) (hplain : (backTo cpos (starEach es X.env)).any (·.1) = false) :
    PE X (.Call (.Attribute o name apos) (e :: es) [] cpos) (tev W B (fMt T op fa f)) :=
  pe_mixD (pe_mono (pe_bm pa slot hty hm ho ha hbase hfew hline hs hplain) fun σ H Q q => by rw [hK]; exact tmx_mt ok σ H Q q)
theorem pe_mt0D {op : D → List D → Option D} (hK : X.K = W.K) (pa : PlainAttrs T) (slot : Slot T name id) (hty : typeOf (.builtin id) = pure (.type "method_descriptor")) (hm : MtR X id r) (ok : MtO W r op) (ho : PE X o (tev W B fa))
    (hbase : attributeBase o name X.env (eval o X.env) = eval o X.env) (hline : (apos.endLine == cpos.line) = true) :
    PE X (.Call (.Attribute o name apos) [] [] cpos) (tev W B (fMt T op fa fNil)) :=
  pe_mixD (pe_mono (pe_bm0 pa slot hty hm ho hbase hline) fun σ H Q q => by
    rw [hK]
    have h := tmx_mt ok σ H Q q
    obtain ⟨ι, z, d, z', zr, e, k⟩ := h
    refine ⟨ι, z, d, z', zr, e, fun v ι' H' k1 r1 zr1 => ?_⟩
    obtain ⟨t1, ι2, z2, ds, z3, zr2, e2, k2⟩ := k v ι' H' k1 r1 zr1
    cases e2
    exact ⟨t1, k2 [] ι2 H' .refl .nil zr2⟩)
theorem ZR.own_set {ι : List Addr} {H : Hp} {σ : L2.St} {z : Z} {i : Nat} {ds ds' : List D} {p : Addr} {xs xs' : List V} (zr : ZR W B ι H σ z) (hi : z.1[i]? = some (some (.own ds))) (hs : σ[i]? = some (some (.ref p))) (hp : H p = some (.lst xs)) (l : ds'.length ≤ sizeLine) (r : RepL W ι H ds' xs') :
    Kp ι H ι (upd H p (.lst xs')) ∧ ZR W B ι (upd H p (.lst xs')) σ (z.1.set i (some (.own ds')), z.2) := by
  obtain ⟨v, hv, _, a, ys, ev, ha, hb, hn, _⟩ := zr.slot i _ hi
  rw [hs] at hv; cases hv; cases ev
  have k2 : Kp ι H ι (upd H p (.lst xs')) := Kp.at_ hp rfl (fun _ _ _ q => by cases q)
  have hil : i < z.1.length := (List.getElem?_eq_some_iff.mp hi).1
  refine ⟨k2, zr.st.same (zr.st.tb.upd (nte_lst hp)) k2 fun a ha u e => by rw [upd_ne (fun q : a = p => hn (q ▸ ha))]; exact e, zr.pre, zr.new, fun b u x n => by rw [upd_ne (fun q => by rw [q, hb.1] at x; cases x)]; exact zr.keep b u x n, zr.newP, fun b u x => by rw [upd_ne (fun q => by rw [q, hb.2] at x; cases x)]; exact zr.keepP b u x, by simp [zr.len], fun j dv hj => ?_, fun j1 j2 dv dv' a' h1 o1 h2 o2 s1 s2 => ?_⟩
  · by_cases hji : j = i
    · subst hji
      simp only [List.getElem?_set_self hil] at hj
      cases hj
      exact ⟨_, hs, l, p, xs', rfl, upd_same, hb, hn, r.kp k2⟩
    · simp only [List.getElem?_set_ne (Ne.symm hji)] at hj
      obtain ⟨u', hu', r'⟩ := zr.slot j dv hj
      refine ⟨u', hu', r'.off k2 hb fun ho e => hji ?_⟩
      exact zr.dis j i dv _ p hj ho hi rfl (by rw [hu', e]) hs
  · have f : ∀ {j : Nat} {dv : DV}, (z.1.set i (some (.own ds')))[j]? = some (some dv) → dv.isOwn = true → ∃ dv2, z.1[j]? = some (some dv2) ∧ dv2.isOwn = true := fun {j dv} hj ho => by
      by_cases hji : j = i
      · subst hji; exact ⟨_, hi, rfl⟩
      · rw [List.getElem?_set_ne (Ne.symm hji)] at hj
        exact ⟨dv, hj, ho⟩
    obtain ⟨d1, g1, p1⟩ := f h1 o1
    obtain ⟨d2, g2, p2⟩ := f h2 o2
    exact zr.dis j1 j2 d1 d2 a' g1 p1 g2 p2 s1 s2
/-- x.m(..) where slot i owns the list: op gives the answer and the new list -/
def fOwn (i : Nat) (op : List D → List D → Option (D × List D)) (f : EvA) : Ev := fun z => match z.1[i]? with
  | some (some (.own _)) => (f z).bind fun y => (match y.2.1[i]? with
    | some (some (.own ds)) => (rdAll y.2 y.1).bind fun as => (op ds as).bind fun r => if okLen r.2 then some (r.1, (y.2.1.set i (some (.own r.2)), y.2.2)) else none
    | _ => none)
  | _ => none
def MuO (W : Wd) (r : V → List V → Hp → VK → Prop) (op : List D → List D → Option (D × List D)) : Prop := ∀ ι H l xs ds as vs d ds' Q, op ds as = some (d, ds') → H l = some (.lst xs) → RepL W ι H ds xs → ds.length ≤ sizeLine → ds'.length ≤ sizeLine → Paired (RRep W ι H) as vs → (∀ u xs', d.plain = true → Rep W ι H d u → RepL W ι H ds' xs' → Q u (upd H l (.lst xs'))) → r (.ref l) vs H Q
theorem tev_own {i : Nat} {op : List D → List D → Option (D × List D)} {f : EvA} (ok : MuO W r op) (σ : L2.St) (H : Hp) (Q : VK) (q : tev W B (fOwn i op f) σ H Q) : tBM W.K "list" r (tVar i) (tevA W B f) σ H Q := by
  obtain ⟨ι, z, d, z', zr, e, k⟩ := q
  unfold fOwn at e
  split at e
  · rename_i ds0 hi0
    obtain ⟨v, hv, _, p0, xs0, ev, hp0, hb, hn, r0⟩ := zr.slot i _ hi0
    subst ev
    cases eb : f z with
    | none => rw [eb] at e; cases e
    | some y =>
      rw [eb, Option.bind_some] at e
      split at e
      · rename_i ds hi
        cases e2 : rdAll y.2 y.1 with
        | none => rw [e2] at e; cases e
        | some as =>
          rw [e2, Option.bind_some] at e
          cases e3 : op ds as with
          | none => rw [e3] at e; cases e
          | some rr =>
            rw [e3, Option.bind_some] at e
            split at e
            · rename_i hl
              cases e
              refine ⟨_, hv, .inl ⟨rfl, xs0, SqL.of hp0⟩, ι, z, y.1, y.2, zr, eb, fun vs ι2 H2 k2 r2 zr2 => ?_⟩
              obtain ⟨v2, hv2, l2, p2, xs2, ev2, hp2, hb2, hn2, rl2⟩ := zr2.slot i _ hi
              rw [hv] at hv2; cases hv2; cases ev2
              refine ok ι2 H2 p0 xs2 ds as vs rr.1 rr.2 Q e3 hp2 rl2 l2 (okLen_le hl) (rdAll_rep zr2 r2 e2) fun u xs' pl rp rl' => ?_
              obtain ⟨k3, zr3⟩ := zr2.own_set hi hv hp2 (okLen_le hl) rl'
              exact k u ι2 _ (k2.trans k3) (XRep.of pl (rp.kp k3 pl)) zr3
            · cases e
      · cases e
  · cases e
theorem pe_ownD {i : Nat} {x : Str} {op : List D → List D → Option (D × List D)} {f : EvA} {xpos : Pos} (hK : X.K = W.K) (slot : Slot "list" name id) (hty : typeOf (.builtin id) = pure (.type "method_descriptor")) (hm : MtR X id r) (ok : MuO W r op) (hN : X.N[i]? = some x) (hv : Vis X.env.scope x) (hd : (x == ("__debug__" : Str)) = false) (hcd : (x == ("__classdict__" : Str)) = false) (ha : PA X (e :: es) (tevA W B f))
    (hbase : attributeBase (.Name x xpos) name X.env (eval (.Name x xpos) X.env) = eval (.Name x xpos) X.env)
    (hfew : ((backTo cpos (starEach (e :: es) X.env)).all (fun x => !x.1) && (backToKw cpos (keywordEach [] X.env)).all (fun x => x.1.isSome)
      && decide ((e :: es).length + ([] : List Keyword).length + (if ([] : List Keyword).isEmpty then 0 else 1) < 30)) = true)
    (hline : (apos.endLine == cpos.line) = true) (hs : starEach (e :: es) X.env = (false, eval e X.env) :: starEach es X.env) (hplain : (backTo cpos (starEach es X.env)).any (·.1) = false) :
    PE X (.Call (.Attribute (.Name x xpos) name apos) (e :: es) [] cpos) (tev W B (fOwn i op f)) :=
  pe_mono (pe_bm PySem.F.plainAttrs_list slot hty hm (pe_var hN hv hd hcd) ha hbase hfew hline hs hplain) fun σ H Q q => by rw [hK]; exact tev_own ok σ H Q q
/-- x.append(e): what is kept is lasting data -/
def fApp (i : Nat) (f : EvA) : Ev := fun z => match z.1[i]? with
  | some (some (.own _)) => (f z).bind fun y => (match y.2.1[i]?, y.1 with
    | some (some (.own ds)), [d] => if d.plain && Nat.blt ds.length 16777216 then some (.non, (y.2.1.set i (some (.own (ds ++ [d]))), y.2.2)) else none
    | _, _ => none)
  | _ => none
theorem tev_app {i : Nat} {f : EvA} (σ : L2.St) (H : Hp) (Q : VK) (q : tev W B (fApp i f) σ H Q) : tBM W.K "list" rAppend (tVar i) (tevA W B f) σ H Q := by
  obtain ⟨ι, z, d, z', zr, e, k⟩ := q
  unfold fApp at e
  split at e
  · rename_i ds0 hi0
    obtain ⟨v, hv, _, p0, xs0, ev, hp0, hb, hn, r0⟩ := zr.slot i _ hi0
    subst ev
    cases eb : f z with
    | none => rw [eb] at e; cases e
    | some y =>
      rw [eb, Option.bind_some] at e
      split at e
      · rename_i ds d1 hi ed
        split at e
        · rename_i hc
          rw [Bool.and_eq_true] at hc
          have hl : ds.length < 16777216 := by
            have := Nat.le_of_ble_eq_true hc.2
            omega
          cases e
          refine ⟨_, hv, .inl ⟨rfl, xs0, SqL.of hp0⟩, ι, z, y.1, y.2, zr, eb, fun vs ι2 H2 k2 r2 zr2 => ?_⟩
          obtain ⟨v2, hv2, l2, p2, xs2, ev2, hp2, hb2, hn2, rl2⟩ := zr2.slot i _ hi
          rw [hv] at hv2; cases hv2; cases ev2
          rw [ed] at r2
          cases r2 with
          | cons rx rt =>
            cases rt
            rename_i vx
            refine ⟨p0, xs2, vx, rfl, rfl, hp2, by rw [← rl2.length, sizeLine_eq]; exact hl, ?_⟩
            obtain ⟨k3, zr3⟩ := zr2.own_set hi hv hp2 (ds' := ds ++ [d1]) (by rw [List.length_append, sizeLine_eq]; simp; omega) (rl2.append (.cons hc.1 (rx.rep hc.1) .nil))
            exact k .non ι2 _ (k2.trans k3) ⟨rfl, by unfold Rep; rfl⟩ zr3
        · cases e
      · cases e
  · cases e
theorem pe_appD {i : Nat} {x : Str} {f : EvA} {xpos : Pos} (hK : X.K = W.K) (hN : X.N[i]? = some x) (hv : Vis X.env.scope x) (hd : (x == ("__debug__" : Str)) = false) (hcd : (x == ("__classdict__" : Str)) = false) (ha : PA X (e :: es) (tevA W B f))
    (hbase : attributeBase (.Name x xpos) "append" X.env (eval (.Name x xpos) X.env) = eval (.Name x xpos) X.env)
    (hfew : ((backTo cpos (starEach (e :: es) X.env)).all (fun x => !x.1) && (backToKw cpos (keywordEach [] X.env)).all (fun x => x.1.isSome)
      && decide ((e :: es).length + ([] : List Keyword).length + (if ([] : List Keyword).isEmpty then 0 else 1) < 30)) = true)
    (hline : (apos.endLine == cpos.line) = true) (hs : starEach (e :: es) X.env = (false, eval e X.env) :: starEach es X.env) (hplain : (backTo cpos (starEach es X.env)).any (·.1) = false) :
    PE X (.Call (.Attribute (.Name x xpos) "append" apos) (e :: es) [] cpos) (tev W B (fApp i f)) :=
  pe_mono (pe_bm PySem.F.plainAttrs_list PySem.F.slot_list_append PySem.F.type_list_append mt_append (pe_var hN hv hd hcd) ha hbase hfew hline hs hplain) fun σ H Q q => by rw [hK]; exact tev_app σ H Q q
/-- pop(i), extend(list) -/
def ixOf (n : Nat) (i : Int) : Option Nat := if 0 ≤ i then (if i < n then some i.toNat else none) else if -(n : Int) ≤ i then some (i + n).toNat else none
end
end DE
set_option Elab.async false
set_option linter.all false
set_option maxRecDepth 100000
set_option maxHeartbeats 4000000
namespace DE
open PySem PySem.Spec L2
inductive Fl where
  | nx | rt (d : D) | bk | ct
abbrev EvS := Z → Option (Fl × Z)
abbrev EvG := D → Z → Option Z
abbrev EvGs := List D → Z → Option Z
def Fin (W : Wd) (ι : List Addr) (H : Hp) (σ : L2.St) (D : Ends) : Fl → Prop
  | .nx => D.nx σ H
  | .bk => D.bk σ H
  | .ct => D.ct σ H
  | .rt d => ∀ v, d.plain = true → Rep W ι H d v → D.rt v H
/-- statements as data -/
def tss (W : Wd) (B : Bs) (f : EvS) : TS := fun D σ H => ∃ ι z fl z', ZR W B ι H σ z ∧ f z = some (fl, z') ∧ ∀ σ' ι' H', Kp ι H ι' H' → ZR W B ι' H' σ' z' → Fin W ι' H' σ' D fl
/-- a target as data -/
def tgv (W : Wd) (B : Bs) (g : EvG) : TG := fun v σ H Q => ∃ ι z d z', ZR W B ι H σ z ∧ d.plain = true ∧ Rep W ι H d v ∧ g d z = some z' ∧ ∀ σ' ι' H', Kp ι H ι' H' → ZR W B ι' H' σ' z' → Q σ' H'
def tgvs (W : Wd) (B : Bs) (g : EvGs) : TGs := fun vs σ H Q => ∃ ι z ds z', ZR W B ι H σ z ∧ RepL W ι H ds vs ∧ g ds z = some z' ∧ ∀ σ' ι' H', Kp ι H ι' H' → ZR W B ι' H' σ' z' → Q σ' H'
section
variable {X : Cx} {W : Wd} {B : Bs} {a b c e tg : Expr} {fa fb fc : Ev} {pos : Pos}
theorem ps_mono {st : Stmt} {t u : TS} (h : PS X st t) (m : ∀ D σ H, u D σ H → t D σ H) : PS X st u := ⟨fun pins s σ H D I q => h.run pins s σ H D I (m D σ H q)⟩
theorem pss_mono {st : List Stmt} {t u : TS} (h : PSs X st t) (m : ∀ D σ H, u D σ H → t D σ H) : PSs X st u := ⟨fun pins s σ H D I q => h.run pins s σ H D I (m D σ H q)⟩
theorem pg_mono {t u : TG} (h : PG X tg t) (m : ∀ v σ H Q, u v σ H Q → t v σ H Q) : PG X tg u := ⟨fun pins s σ H v w Q I r q => h.run pins s σ H v w Q I r (m v σ H Q q)⟩
theorem pgs_mono {ts : List Expr} {t u : TGs} (h : PGs X ts t) (m : ∀ v σ H Q, u v σ H Q → t v σ H Q) : PGs X ts u := ⟨fun pins s σ H v w Q I r q => h.run pins s σ H v w Q I r (m v σ H Q q)⟩
theorem pg_or {t u : TG} (h : PG X tg t) (h' : PG X tg u) : PG X tg (fun v σ H Q => t v σ H Q ∨ u v σ H Q) := ⟨fun pins s σ H v w Q I r q => q.elim (h.run pins s σ H v w Q I r) (h'.run pins s σ H v w Q I r)⟩
theorem ZR.set {ι : List Addr} {H : Hp} {σ : L2.St} {z : Z} {i : Nat} {d : D} {v : V} (zr : ZR W B ι H σ z) (p : d.plain = true) (r : Rep W ι H d v) : ZR W B ι H (σ.set i (some v)) (z.1.set i (some (.imm d)), z.2) := by
  refine ⟨zr.st, zr.pre, zr.new, zr.keep, zr.newP, zr.keepP, by simp [zr.len], fun j dv hj => ?_, fun j1 j2 dv dv' a' h1 o1 h2 o2 s1 s2 => ?_⟩
  · by_cases hji : j = i
    · subst hji
      have hl : j < z.1.length := by
        have := (List.getElem?_eq_some_iff.mp hj).1
        simpa using this
      simp only [List.getElem?_set_self hl] at hj
      cases hj
      exact ⟨v, by rw [List.getElem?_set_self (by rw [← zr.len]; exact hl)], p, r⟩
    · simp only [List.getElem?_set_ne (Ne.symm hji)] at hj
      obtain ⟨u, hu, q⟩ := zr.slot j dv hj
      exact ⟨u, by rw [List.getElem?_set_ne (Ne.symm hji)]; exact hu, q⟩
  · have f : ∀ {j : Nat} {dv : DV}, (z.1.set i (some (.imm d)))[j]? = some (some dv) → dv.isOwn = true → j ≠ i ∧ z.1[j]? = some (some dv) := fun {j dv} hj ho => by
      by_cases hji : j = i
      · subst hji
        have hl : j < z.1.length := by
          have := (List.getElem?_eq_some_iff.mp hj).1
          simpa using this
        rw [List.getElem?_set_self hl] at hj
        cases hj; cases ho
      · rw [List.getElem?_set_ne (Ne.symm hji)] at hj
        exact ⟨hji, hj⟩
    obtain ⟨n1, g1⟩ := f h1 o1
    obtain ⟨n2, g2⟩ := f h2 o2
    rw [List.getElem?_set_ne (Ne.symm n1)] at s1
    rw [List.getElem?_set_ne (Ne.symm n2)] at s2
    exact zr.dis j1 j2 dv dv' a' g1 o1 g2 o2 s1 s2
/-- .. to a list of its own -/
theorem ZR.setOwn {ι : List Addr} {H : Hp} {σ : L2.St} {z : Z} {i : Nat} {dv : DV} {p : Addr} (zr : ZR W B ι H σ z) (fr : Fr B ι σ z p) (ho : dv.isOwn = true) (r : DRep W B ι H (.ref p) dv) : ZR W B ι H (σ.set i (some (.ref p))) (z.1.set i (some dv), z.2) := by
  refine ⟨zr.st, zr.pre, zr.new, zr.keep, zr.newP, zr.keepP, by simp [zr.len], fun j dv1 hj => ?_, fun j1 j2 dv1 dv' a' h1 o1 h2 o2 s1 s2 => ?_⟩
  · by_cases hji : j = i
    · subst hji
      have hl : j < z.1.length := by
        have := (List.getElem?_eq_some_iff.mp hj).1
        simpa using this
      simp only [List.getElem?_set_self hl] at hj
      cases hj
      exact ⟨_, by rw [List.getElem?_set_self (by rw [← zr.len]; exact hl)], r⟩
    · simp only [List.getElem?_set_ne (Ne.symm hji)] at hj
      obtain ⟨u, hu, q⟩ := zr.slot j dv1 hj
      exact ⟨u, by rw [List.getElem?_set_ne (Ne.symm hji)]; exact hu, q⟩
  · have f : ∀ {j : Nat} {dv2 : DV} {a' : Addr}, (z.1.set i (some dv))[j]? = some (some dv2) → dv2.isOwn = true → (σ.set i (some (.ref p)))[j]? = some (some (.ref a')) → (j = i ∧ a' = p) ∨ (j ≠ i ∧ z.1[j]? = some (some dv2) ∧ σ[j]? = some (some (.ref a'))) := fun {j dv2 a'} hj ho hs => by
      by_cases hji : j = i
      · subst hji
        have hl : j < z.1.length := by
          have := (List.getElem?_eq_some_iff.mp hj).1
          simpa using this
        rw [List.getElem?_set_self (by rw [← zr.len]; exact hl)] at hs
        cases hs
        exact .inl ⟨rfl, rfl⟩
      · rw [List.getElem?_set_ne (Ne.symm hji)] at hj hs
        exact .inr ⟨hji, hj, hs⟩
    rcases f h1 o1 s1 with ⟨e1, e2⟩ | ⟨n1, g1, t1⟩
    · rcases f h2 o2 s2 with ⟨e3, e4⟩ | ⟨n2, g2, t2⟩
      · rw [e1, e3]
      · exact (fr.o j2 dv' g2 o2 (by rw [t2, e2])).elim
    · rcases f h2 o2 s2 with ⟨e3, e4⟩ | ⟨n2, g2, t2⟩
      · exact (fr.o j1 dv1 g1 o1 (by rw [t1, e4])).elim
      · exact zr.dis j1 j2 dv1 dv' a' g1 o1 g2 o2 t1 t2
def gSet (i : Nat) : EvG := fun d z => some (z.1.set i (some (.imm d)), z.2)
theorem pg_nameD {i : Nat} {x : Str} (hN : X.N.Nodup) (hi : X.N[i]? = some x) (hx : Loc X.env.scope x) (hf : X.fn x = true ∨ X.env.scope.names.lookup x = some .local) : PG X (.Name x pos) (tgv W B (gSet i)) := by
  refine pg_mono (pg_name hN hi hx hf) fun v σ H Q q => ?_
  obtain ⟨ι, z, d, z', zr, p, r, e1, k⟩ := q
  cases e1
  exact k _ ι H .refl (zr.set p r)
def gsNil : EvGs := fun ds z => match ds with
  | [] => some z
  | _ => none
def gsCons (g : EvG) (gs : EvGs) : EvGs := fun ds z => match ds with
  | d :: r => (g d z).bind fun z1 => gs r z1
  | [] => none
theorem pgs_nilD : PGs X [] (tgvs W B gsNil) := by
  refine pgs_mono pgs_nil fun v σ H Q q => ?_
  obtain ⟨ι, z, ds, z', zr, r, e1, k⟩ := q
  unfold gsNil at e1
  split at e1
  · cases e1
    unfold RepL at r
    exact ⟨r, k σ ι H .refl zr⟩
  · cases e1
theorem pgs_consD {es : List Expr} {g : EvG} {gs : EvGs} (h1 : PG X e (tgv W B g)) (h2 : PGs X es (tgvs W B gs)) (hs : (assignEach (e :: es) X.env).map (·.2) = assign e X.env :: (assignEach es X.env).map (·.2)) : PGs X (e :: es) (tgvs W B (gsCons g gs)) := by
  refine pgs_mono (pgs_cons h1 h2 hs) fun v σ H Q q => ?_
  obtain ⟨ι, z, ds, z', zr, r, e1, k⟩ := q
  unfold gsCons at e1
  split at e1
  · rename_i d r1
    unfold RepL at r
    obtain ⟨v1, vs1, ev, p, rd1, rl⟩ := r
    cases e2 : g d z with
    | none => rw [e2] at e1; cases e1
    | some z1 =>
      rw [e2, Option.bind_some] at e1
      exact ⟨v1, vs1, ev, ι, z, d, z1, zr, p, rd1, e2, fun σ1 ι1 H1 k1 zr1 => ⟨ι1, z1, r1, z', zr1, rl.kp k1, e1, fun σ2 ι2 H2 k2 zr2 => k σ2 ι2 H2 (k1.trans k2) zr2⟩⟩
  · cases e1
/-- (a, b, ..) = a tuple or a list -/
def gTupD (n : Nat) (gs : EvGs) : EvG := fun d z => (itemsOf d).bind fun ds => if ds.length = n then gs ds z else none
theorem pg_tupD {es : List Expr} {m n : Nat} {gs : EvGs} (hK : X.K = W.K) (hc : X.calm = true) (h : PGs X es (tgvs W B gs)) (hn : (assignEach es X.env).length = n) (hst : (assignEach es X.env).findIdx? (·.1) = none) : PG X (.Tuple es m pos) (tgv W B (gTupD n gs)) := by
  refine pg_mono (pg_or (pg_tup hc h hn hst) (pg_unl hc h hn hst)) fun v σ H Q q => ?_
  obtain ⟨ι, z, d, z', zr, p, r, e1, k⟩ := q
  unfold gTupD at e1
  cases e2 : itemsOf d with
  | none => rw [e2] at e1; cases e1
  | some ds =>
    rw [e2, Option.bind_some] at e1
    split at e1
    · rename_i hl
      cases d with
      | tup l =>
        cases e2
        unfold Rep at r
        obtain ⟨_, a, xs, ev, hx, rl⟩ := r
        exact .inl ⟨a, xs, ev, SqT.of hx, by rw [← rl.length]; exact hl, ι, z, ds, z', zr, rl, e1, k⟩
      | lst l =>
        cases e2
        unfold Rep at r
        obtain ⟨_, a, xs, ev, hx, rl⟩ := r
        exact .inr ⟨a, xs, ev, hK.symm ▸ hx.sq, by rw [← rl.length]; exact hl, ι, z, ds, z', zr, rl, e1, k⟩
      | _ => cases e2
    · cases e1
def sNx : EvS := fun z => some (.nx, z)
def sSeq (f g : EvS) : EvS := fun z => (f z).bind fun x => match x.1 with
  | .nx => g x.2
  | fl => some (fl, x.2)
theorem ss_nilD : PSs X [] (tss W B sNx) := by
  refine pss_mono pss_nil fun D σ H q => ?_
  obtain ⟨ι, z, fl, z', zr, e1, k⟩ := q
  cases e1
  exact k σ ι H .refl zr
theorem ss_consD {st : Stmt} {rest : List Stmt} {f g : EvS} (h1 : PS X st (tss W B f)) (h2 : PSs X rest (tss W B g)) : PSs X (st :: rest) (tss W B (sSeq f g)) := by
  refine pss_mono (pss_cons h1 h2) fun D σ H q => ?_
  obtain ⟨ι, z, fl, z', zr, e1, k⟩ := q
  unfold sSeq at e1
  cases ef : f z with
  | none => rw [ef] at e1; cases e1
  | some x =>
    rw [ef, Option.bind_some] at e1
    obtain ⟨fl1, z1⟩ := x
    refine ⟨ι, z, fl1, z1, zr, ef, fun σ1 ι1 H1 k1 zr1 => ?_⟩
    cases fl1 with
    | nx => exact ⟨ι1, z1, fl, z', zr1, e1, fun σ2 ι2 H2 k2 zr2 => k σ2 ι2 H2 (k1.trans k2) zr2⟩
    | bk => cases e1; exact k σ1 ι1 H1 k1 zr1
    | ct => cases e1; exact k σ1 ι1 H1 k1 zr1
    | rt d => cases e1; exact k σ1 ι1 H1 k1 zr1
def sAsg (f : Ev) (g : EvG) : EvS := fun z => (f z).bind fun x => if x.1.plain then (g x.1 x.2).map fun z' => (.nx, z') else none
theorem tss_asg {f : Ev} {g : EvG} (D : Ends) (σ : L2.St) (H : Hp) (q : tss W B (sAsg f g) D σ H) : tAsg (tev W B f) (tgv W B g) D σ H := by
  obtain ⟨ι, z, fl, z', zr, e1, k⟩ := q
  unfold sAsg at e1
  cases ef : f z with
  | none => rw [ef] at e1; cases e1
  | some x =>
    rw [ef, Option.bind_some] at e1
    split at e1
    · rename_i hp
      cases eg : g x.1 x.2 with
      | none => rw [eg] at e1; cases e1
      | some z2 =>
        rw [eg] at e1; cases e1
        exact ⟨ι, z, x.1, x.2, zr, ef, fun v ι1 H1 k1 r1 zr1 => ⟨ι1, x.2, x.1, z', zr1, hp, r1.rep hp, eg, fun σ2 ι2 H2 k2 zr2 => k σ2 ι2 H2 (k1.trans k2) zr2⟩⟩
    · cases e1
theorem ps_asgD {f : Ev} {g : EvG} (he : PE X e (tev W B f)) (hg : PG X tg (tgv W B g)) (hs : swapsWithSole [tg] e pos.line X.env = pure false) (hw : swappedStores [tg] e X.env = pure none) (h1 : (assignEach [tg] X.env).map (·.2) = [assign tg X.env]) : PS X (.Assign [tg] e pos) (tss W B (sAsg f g)) :=
  ps_mono (ps_asg he hg hs hw h1) tss_asg
/-- name = value, whatever the value's form -/
theorem ps_setD {i : Nat} {x : Str} {f : Ev} {pos' : Pos} (hN : X.N.Nodup) (hi : X.N[i]? = some x) (hx : Loc X.env.scope x) (he : PE X e (tev W B f)) (hs : swapsWith e (some (.Name x pos')) pos.line X.env = pure false) (hf : X.fn x = true ∨ X.env.scope.names.lookup x = some .local) : PS X (.Assign [.Name x pos'] e pos) (tss W B (sAsg f (gSet i))) :=
  ps_mono (ps_set hN hi hx he hs hf) fun D σ H q => by
    obtain ⟨ι, z, d, z', zr, e, k⟩ := tss_asg D σ H q
    refine ⟨ι, z, d, z', zr, e, fun v ι' H' k1 r1 zr1 => ?_⟩
    obtain ⟨ι2, z2, d2, z3, zr2, p, r, e2, k2⟩ := k v ι' H' k1 r1 zr1
    cases e2
    exact k2 _ ι2 H' .refl (zr2.set p r)
/-- name = a fresh list, the name's own -/
def sOwn (i : Nat) (f : EvA) : EvS := fun z => (f z).map fun x => (.nx, (x.2.1.set i (some (.own x.1)), x.2.2))
theorem ps_ownD {i : Nat} {x : Str} {f : EvA} {pos' : Pos} (hN : X.N.Nodup) (hi : X.N[i]? = some x) (hx : Loc X.env.scope x) (he : PE X e (tfr W B f)) (hs : swapsWith e (some (.Name x pos')) pos.line X.env = pure false) (hf : X.fn x = true ∨ X.env.scope.names.lookup x = some .local) : PS X (.Assign [.Name x pos'] e pos) (tss W B (sOwn i f)) :=
  ps_mono (ps_set hN hi hx he hs hf) fun D σ H q => by
    obtain ⟨ι, z, fl, z', zr, e1, k⟩ := q
    unfold sOwn at e1
    cases ef : f z with
    | none => rw [ef] at e1; cases e1
    | some x =>
      rw [ef] at e1; cases e1
      exact ⟨ι, z, x.1, x.2, zr, ef, fun p xs ι1 H1 k1 zr1 r l _ hp fr => k _ ι1 H1 k1 (zr1.setOwn fr rfl ⟨l, p, xs, rfl, hp, fr.b, fr.i, r⟩)⟩
def sExpr (f : Ev) : EvS := fun z => (f z).map fun x => (.nx, x.2)
theorem ps_exprD {f : Ev} (he : PE X e (tev W B f)) (hs : swapsWith e none pos.line X.env = pure false) : PS X (.Expr e pos) (tss W B (sExpr f)) :=
  ps_mono (ps_expr he hs) fun D σ H q => by
    obtain ⟨ι, z, fl, z', zr, e1, k⟩ := q
    unfold sExpr at e1
    cases ef : f z with
    | none => rw [ef] at e1; cases e1
    | some x =>
      rw [ef] at e1; cases e1
      exact ⟨ι, z, x.1, x.2, zr, ef, fun v ι1 H1 k1 r1 zr1 => k σ ι1 H1 k1 zr1⟩
def sRet (f : Ev) : EvS := fun z => (f z).bind fun x => if x.1.plain then some (.rt x.1, x.2) else none
theorem ps_retD {f : Ev} (he : PE X e (tev W B f)) : PS X (.Return (some e) pos) (tss W B (sRet f)) :=
  ps_mono (ps_ret he) fun D σ H q => by
    obtain ⟨ι, z, fl, z', zr, e1, k⟩ := q
    unfold sRet at e1
    cases ef : f z with
    | none => rw [ef] at e1; cases e1
    | some x =>
      rw [ef, Option.bind_some] at e1
      split at e1
      · rename_i hp
        cases e1
        exact ⟨ι, z, x.1, x.2, zr, ef, fun v ι1 H1 k1 r1 zr1 => k σ ι1 H1 k1 zr1 v hp (r1.rep hp)⟩
      · cases e1
def sIf (t : EvT) (f g : EvS) : EvS := fun z => (t z).bind fun x => if x.1 then f x.2 else g x.2
theorem ps_ifD {t : EvT} {f g : EvS} {xs ys : List Stmt} (ht : PT X c (ttv W B t)) (hf : PSs X xs (tss W B f)) (hg : PSs X ys (tss W B g)) : PS X (.If c xs ys pos) (tss W B (sIf t f g)) :=
  ps_mono (ps_if ht hf hg) fun D σ H q => by
    obtain ⟨ι, z, fl, z', zr, e1, k⟩ := q
    unfold sIf at e1
    cases ef : t z with
    | none => rw [ef] at e1; cases e1
    | some x =>
      rw [ef, Option.bind_some] at e1
      obtain ⟨b, z1⟩ := x
      refine ⟨ι, z, b, z1, zr, ef, fun ι1 H1 k1 zr1 => ?_⟩
      cases b with
      | true => rw [if_pos rfl]; exact ⟨ι1, z1, fl, z', zr1, e1, fun σ2 ι2 H2 k2 zr2 => k σ2 ι2 H2 (k1.trans k2) zr2⟩
      | false => rw [if_neg Bool.false_ne_true]; exact ⟨ι1, z1, fl, z', zr1, e1, fun σ2 ι2 H2 k2 zr2 => k σ2 ι2 H2 (k1.trans k2) zr2⟩
theorem ps_passD : PS X (.Pass pos) (tss W B sNx) := ps_mono ps_pass fun D σ H q => by
  obtain ⟨ι, z, fl, z', zr, e1, k⟩ := q
  cases e1
  exact k σ ι H .refl zr
theorem ps_breakD : PS X (.Break pos) (tss W B fun z => some (.bk, z)) := ps_mono ps_break fun D σ H q => by
  obtain ⟨ι, z, fl, z', zr, e1, k⟩ := q
  cases e1
  exact k σ ι H .refl zr
theorem ps_contD : PS X (.Continue pos) (tss W B fun z => some (.ct, z)) := ps_mono ps_continue fun D σ H q => by
  obtain ⟨ι, z, fl, z', zr, e1, k⟩ := q
  cases e1
  exact k σ ι H .refl zr
/-- what is never come to -/
theorem ps_neverD {st : Stmt} : PS X st (tss W B fun _ => none) := ⟨fun _ _ _ _ _ _ q => by
  obtain ⟨ι, z, fl, z', zr, e1, k⟩ := q
  cases e1⟩
theorem pss_neverD {st : List Stmt} : PSs X st (tss W B fun _ => none) := ⟨fun _ _ _ _ _ _ q => by
  obtain ⟨ι, z, fl, z', zr, e1, k⟩ := q
  cases e1⟩
/-- the loop over these items: g stores the item, b is the body -/
def forL (g : EvG) (b : EvS) : List D → EvS
  | [], z => some (.nx, z)
  | d :: ds, z => (g d z).bind fun z1 => (b z1).bind fun x => match x.1 with
    | .nx => forL g b ds x.2
    | .ct => forL g b ds x.2
    | .bk => some (.nx, x.2)
    | .rt v => some (.rt v, x.2)
/-- what is walked: a walk's items as data. J yields at turn i something that represents the i-th -/
structure Wlk (W : Wd) (ι : List Addr) (H0 : Hp) (J : It) (ds : List D) (G : Hp → Prop) : Prop where
  goes : ∀ i H, i < ds.length → G H → J.go i H
  stops : ∀ H, G H → J.stop ds.length H
  yields : ∀ i H x H', i < ds.length → G H → J.yld i H x H' → (∀ b o, H b = some o → H' b = some o) ∧ ∀ d ι1, ds[i]? = some d → Kp ι H0 ι1 H → d.plain = true ∧ Rep W ι1 H' d x
/-- an iterable as data: its items, and what keeps them -/
def tiv (W : Wd) (B : Bs) (f : EvA) : TI := fun σ H R => ∃ ι z ds z', ZR W B ι H σ z ∧ f z = some (ds, z') ∧ ∀ J G ι1 H1, Kp ι H ι1 H1 → ZR W B ι1 H1 σ z' → Wlk W ι1 H1 J ds G → G H1 → (∀ ι2 H2, Kp ι1 H1 ι2 H2 → G H2) → R J H1
theorem pi_mono {iter : Expr} {t u : TI} (h : PI X tg iter t) (m : ∀ σ H R, u σ H R → t σ H R) : PI X tg iter u := ⟨fun pins s σ H R I q => h.run pins s σ H R I (m σ H R q)⟩
def sFor (f : EvA) (g : EvG) (b : EvS) : EvS := fun z => (f z).bind fun x => forL g b x.1 x.2
theorem ps_forD {iter : Expr} {body : List Stmt} {f : EvA} {g : EvG} {b : EvS} (hp : PassesOwn (model X.prog X.w) X.A X.env X.xe) (hc : X.calm = true) (hi : PI X tg iter (tiv W B f)) (hg : PG X tg (tgv W B g)) (hb : PSs X body (tss W B b)) (hs : ∀ x, foldedSetIterable iter X.env x = pure x) :
    PS X (.For tg iter body [] pos) (tss W B (sFor f g b)) := by
  refine ps_mono (ps_for hp hc hi hg hb hs) fun D σ H q => ?_
  obtain ⟨ι, z, fl, z', zr, e1, k⟩ := q
  unfold sFor at e1
  cases ef : f z with
  | none => rw [ef] at e1; cases e1
  | some x =>
    rw [ef, Option.bind_some] at e1
    obtain ⟨ds, z1⟩ := x
    refine ⟨ι, z, ds, z1, zr, ef, fun J G ι1 H1 k1 zr1 wl g1 gk => ?_⟩
    refine ⟨fun i m σ2 H2 => m = ds.length - i ∧ i ≤ ds.length ∧ ∃ ι2 z2, Kp ι1 H1 ι2 H2 ∧ ZR W B ι2 H2 σ2 z2 ∧ forL g b (ds.drop i) z2 = some (fl, z'), ⟨ds.length, by simp, Nat.zero_le _, ι1, z1, .refl, zr1, by simpa using e1⟩, ?_⟩
    rintro i m σ2 H2 ⟨rfl, hi, ι2, z2, k2, zr2, e2⟩
    have g2 := gk ι2 H2 k2
    by_cases hlt : i < ds.length
    · have hd : ds.drop i = ds[i] :: ds.drop (i + 1) := List.drop_eq_getElem_cons hlt
      rw [hd] at e2
      unfold forL at e2
      cases eg : g ds[i] z2 with
      | none => rw [eg] at e2; cases e2
      | some z3 =>
        rw [eg, Option.bind_some] at e2
        cases eb : b z3 with
        | none => rw [eb] at e2; cases e2
        | some y =>
          rw [eb, Option.bind_some] at e2
          obtain ⟨fl4, z4⟩ := y
          refine .inr ⟨wl.goes i H2 hlt g2, fun σ5 H5 => ∃ ι5 z5, Kp ι1 H1 ι5 H5 ∧ ZR W B ι5 H5 σ5 z5 ∧ forL g b (ds.drop (i + 1)) z5 = some (fl, z'), ?_, ?_⟩
          · rintro σ5 H5 ⟨ι5, z5, k5, zr5, e5⟩
            exact ⟨ds.length - (i + 1), by omega, rfl, hlt, ι5, z5, k5, zr5, e5⟩
          · intro x H3 hy
            obtain ⟨sm, yl⟩ := wl.yields i H2 x H3 hlt g2 hy
            obtain ⟨pl, rp⟩ := yl ds[i] ι2 (List.getElem?_eq_getElem hlt) k2
            have k3 : Kp ι1 H1 ι2 H3 := k2.trans (Kp.same sm)
            refine ⟨ι2, z2, ds[i], z3, zr2.same sm, pl, rp, eg, fun σ6 ι6 H6 k6 zr6 => ⟨ι6, z3, fl4, z4, zr6, eb, fun σ7 ι7 H7 k7 zr7 => ?_⟩⟩
            have k8 : Kp ι1 H1 ι7 H7 := (k3.trans k6).trans k7
            cases fl4 with
            | nx => exact ⟨ι7, z4, k8, zr7, e2⟩
            | ct => exact ⟨ι7, z4, k8, zr7, e2⟩
            | bk =>
              cases e2
              exact k σ7 ι7 H7 (k1.trans k8) zr7
            | rt v =>
              cases e2
              exact k σ7 ι7 H7 (k1.trans k8) zr7
    · have e : i = ds.length := by omega
      subst e
      rw [List.drop_length] at e2
      cases e2
      exact .inl ⟨wl.stops H2 g2, k σ2 ι2 H2 (k1.trans k2) zr2⟩
/-- while, with fuel -/
def whileL (t : EvT) (b : EvS) : Nat → EvS
  | 0, _ => none
  | n + 1, z => (t z).bind fun x => if x.1 then (b x.2).bind fun y => (match y.1 with
    | .nx => whileL t b n y.2
    | .ct => whileL t b n y.2
    | .bk => some (.nx, y.2)
    | .rt v => some (.rt v, y.2)) else some (.nx, x.2)
theorem ps_whileD {body : List Stmt} {t : EvT} {b : EvS} {n : Nat} (hp : PassesOwn (model X.prog X.w) X.A X.env X.xe) (ht : PT X c (ttv W B t)) (hb : PSs X body (tss W B b)) : PS X (.While c body [] pos) (tss W B (whileL t b n)) := by
  refine ps_mono (ps_while hp ht hb) fun D σ H q => ?_
  obtain ⟨ι, z, fl, z', zr, e1, k⟩ := q
  refine ⟨fun m σ2 H2 => ∃ ι2 z2, Kp ι H ι2 H2 ∧ ZR W B ι2 H2 σ2 z2 ∧ whileL t b m z2 = some (fl, z'), ⟨n, ι, z, .refl, zr, e1⟩, ?_⟩
  rintro m σ2 H2 ⟨ι2, z2, k2, zr2, e2⟩
  cases m with
  | zero => cases e2
  | succ m =>
    unfold whileL at e2
    cases et : t z2 with
    | none => rw [et] at e2; cases e2
    | some x =>
      rw [et, Option.bind_some] at e2
      obtain ⟨bb, z3⟩ := x
      refine ⟨ι2, z2, bb, z3, zr2, et, fun ι3 H3 k3 zr3 => ?_⟩
      cases bb with
      | false =>
        rw [if_neg Bool.false_ne_true]
        cases e2
        exact k σ2 ι3 H3 (k2.trans k3) zr3
      | true =>
        rw [if_pos rfl]
        simp only [if_true] at e2
        cases eb : b z3 with
        | none => rw [eb] at e2; cases e2
        | some y =>
          rw [eb, Option.bind_some] at e2
          obtain ⟨fl4, z4⟩ := y
          refine ⟨fun σ5 H5 => ∃ ι5 z5, Kp ι H ι5 H5 ∧ ZR W B ι5 H5 σ5 z5 ∧ whileL t b m z5 = some (fl, z'), ?_, ι3, z3, fl4, z4, zr3, eb, fun σ7 ι7 H7 k7 zr7 => ?_⟩
          · rintro σ5 H5 ⟨ι5, z5, k5, zr5, e5⟩
            exact ⟨m, Nat.lt_succ_self _, ι5, z5, k5, zr5, e5⟩
          · have k8 : Kp ι H ι7 H7 := (k2.trans k3).trans k7
            cases fl4 with
            | nx => exact ⟨ι7, z4, k8, zr7, e2⟩
            | ct => exact ⟨ι7, z4, k8, zr7, e2⟩
            | bk =>
              cases e2
              exact k σ7 ι7 H7 k8 zr7
            | rt v =>
              cases e2
              exact k σ7 ι7 H7 k8 zr7
end
end DE
set_option Elab.async false
set_option linter.all false
set_option maxRecDepth 100000
set_option maxHeartbeats 4000000
namespace DE
open PySem PySem.Spec L2
section
variable {X : Cx} {W : Wd} {B : Bs} {a b c e tg : Expr} {fa fb fc : Ev} {pos p : Pos}
theorem pi_or {iter : Expr} {t u : TI} (h : PI X tg iter t) (h' : PI X tg iter u) : PI X tg iter (fun σ H R => t σ H R ∨ u σ H R) := ⟨fun pins s σ H R I q => q.elim (h.run pins s σ H R I) (h'.run pins s σ H R I)⟩
def itD : D → Option (List D)
  | .lst ds => some ds
  | .tup ds => some ds
  | .str s => some (s.map fun c => .str [c])
  | .itp ns => some (ns.map D.int)
  | _ => none
def fIt (f : Ev) : EvA := fun z => (f z).bind fun x => (itD x.1).map fun ds => (ds, x.2)
theorem wlk_list {ι : List Addr} {H0 : Hp} {K : PySem.W.Frag} (hK : K = W.K) {a : Addr} {ds : List D} {xs : List V} (r : RepL W ι H0 ds xs) : Wlk W ι H0 (Itl K a) ds (fun H => Fz W.K H a xs) where
  goes := fun i H hi g => by
    rw [r.length] at hi
    exact ⟨xs, xs[i], hK ▸ g.sq, by simp [hi]⟩
  stops := fun H g => ⟨xs, hK ▸ g.sq, by rw [r.length]; exact Nat.le_refl _⟩
  yields := fun i H x H' hi g y => by
    obtain ⟨rfl, y⟩ := y
    refine ⟨fun _ _ h => h, fun d ι1 hd k => ?_⟩
    obtain ⟨v, hv, rv, pv⟩ := (r.kp k).get hd
    have := y xs (hK ▸ g.sq)
    rw [hv] at this; cases this
    exact ⟨pv, rv⟩
theorem wlk_tup {ι : List Addr} {H0 : Hp} {K : PySem.W.Frag} {a : Addr} {ds : List D} {xs : List V} (r : RepL W ι H0 ds xs) : Wlk W ι H0 (Itt K a) ds (fun H => SqT K H a xs) where
  goes := fun i H hi g => by
    rw [r.length] at hi
    exact ⟨xs, xs[i], g, by simp [hi]⟩
  stops := fun H g => ⟨xs, g, by rw [r.length]; exact Nat.le_refl _⟩
  yields := fun i H x H' hi g y => by
    obtain ⟨rfl, y⟩ := y
    refine ⟨fun _ _ h => h, fun d ι1 hd k => ?_⟩
    obtain ⟨v, hv, rv, pv⟩ := (r.kp k).get hd
    have := y xs g
    rw [hv] at this; cases this
    exact ⟨pv, rv⟩
theorem wlk_str {ι : List Addr} {H0 : Hp} {s : List Nat} : Wlk W ι H0 (Its (SX.S s)) (s.map fun c => D.str [c]) (fun _ => True) where
  goes := fun i H hi _ => by
    show i < (SX.S s).cps.size
    simpa using hi
  stops := fun H _ => by
    show (SX.S s).cps.size ≤ _
    simp
  yields := fun i H x H' hi _ y => by
    obtain ⟨rfl, c, hc, rfl⟩ := y
    refine ⟨fun _ _ h => h, fun d ι1 hd k => ?_⟩
    have hc' : s[i]? = some c := by simpa using hc
    rw [List.getElem?_map, hc'] at hd
    cases hd
    refine ⟨rfl, ?_⟩
    unfold Rep
    exact ⟨rfl, by rw [sizeLine_eq]; simp⟩
theorem fz_kp {ι ι' : List Addr} {H H' : Hp} {a : Addr} {xs : List V} (k : Kp ι H ι' H') {K : PySem.W.Frag} (h : Fz K H a xs) : Fz K H' a xs := by
  exact h.elim (fun ⟨o, h⟩ => .inl ⟨o, k.fz a _ h rfl⟩) .inr
theorem pi_itD (hK : X.K = W.K) (h : PE X e (tev W B fa)) : PI X tg e (tiv W B (fIt fa)) := by
  refine pi_mono (pi_or (pi_list h) (pi_or (pi_tup h) (pi_str h))) fun σ H R q => ?_
  obtain ⟨ι, z, ds, z', zr, e1, k⟩ := q
  unfold fIt at e1
  cases ea : fa z with
  | none => rw [ea] at e1; cases e1
  | some x =>
    rw [ea, Option.bind_some] at e1
    obtain ⟨d, z1⟩ := x
    cases d with
    | lst l =>
      cases e1
      refine .inl ⟨ι, z, _, _, zr, ea, fun v ι1 H1 k1 r1 zr1 => ?_⟩
      have r2 := r1.rep rfl
      unfold Rep at r2
      obtain ⟨_, p, xs, ev, fz, rl⟩ := r2
      exact ⟨p, ev, ⟨xs, hK ▸ fz.sq⟩, k _ _ ι1 H1 k1 zr1 (wlk_list hK rl) fz fun ι2 H2 k2 => fz_kp k2 fz⟩
    | tup l =>
      cases e1
      refine .inr (.inl ⟨ι, z, _, _, zr, ea, fun v ι1 H1 k1 r1 zr1 => ?_⟩)
      have r2 := r1.rep rfl
      unfold Rep at r2
      obtain ⟨_, p, xs, ev, fz, rl⟩ := r2
      replace fz : SqT W.K H1 p xs := SqT.of fz
      rw [hK]
      exact ⟨p, ev, ⟨xs, fz⟩, k _ _ ι1 H1 k1 zr1 (wlk_tup rl) fz fun ι2 H2 k2 => fz_sqT k2.fz fz⟩
    | itp ns =>
      cases e1
      refine .inr (.inl ⟨ι, z, _, _, zr, ea, fun v ι1 H1 k1 r1 zr1 => ?_⟩)
      have r2 := r1.rep rfl
      unfold Rep at r2
      obtain ⟨_, p, o, ev, fz, _⟩ := r2
      replace fz : SqT W.K H1 p (ns.map V.int) := .inl (.inr ⟨o, fz⟩)
      rw [hK]
      exact ⟨p, ev, ⟨_, fz⟩, k _ _ ι1 H1 k1 zr1 (wlk_tup (repL_ints0 ns)) fz fun ι2 H2 k2 => fz_sqT k2.fz fz⟩
    | str s =>
      cases e1
      refine .inr (.inr ⟨ι, z, _, _, zr, ea, fun v ι1 H1 k1 r1 zr1 => ?_⟩)
      have r2 := r1.rep rfl
      unfold Rep at r2
      exact ⟨_, r2.1, k _ _ ι1 H1 k1 zr1 wlk_str trivial fun _ _ _ => trivial⟩
    | _ => cases e1
def rngL (lo : Int) (n : Nat) : List D := (List.range n).map fun i => .int (lo + (i : Nat))
theorem wlk_rng {ι : List Addr} {H0 : Hp} {lo : Int} {n : Nat} : Wlk W ι H0 (Itr lo n) (rngL lo n) (fun _ => True) where
  goes := fun i H hi _ => by
    show i < n
    simpa [rngL] using hi
  stops := fun H _ => by
    show n ≤ _
    simp [rngL]
  yields := fun i H x H' hi _ y => by
    obtain ⟨rfl, rfl⟩ := y
    refine ⟨fun _ _ h => h, fun d ι1 hd k => ?_⟩
    have hn : i < n := by simpa [rngL] using hi
    unfold rngL at hd
    rw [List.getElem?_map, List.getElem?_range hn] at hd
    cases hd
    exact ⟨rfl, by unfold Rep; rfl⟩
def bigOk (i : Int) : Bool := Nat.ble i.natAbs 1000000000
theorem big_le {i : Int} (h : bigOk i = true) : -1000000000 ≤ i ∧ i ≤ 1000000000 := by
  have := Nat.le_of_ble_eq_true h
  omega
def fRng1 (f : EvA) : EvA := fun z => (f z).bind fun x => match x.1 with
  | [.int j] => if bigOk j then some (rngL 0 j.toNat, x.2) else none
  | _ => none
def fRng2 (f : EvA) : EvA := fun z => (f z).bind fun x => match x.1 with
  | [.int i, .int j] => if bigOk i && bigOk j then some (rngL i (j - i).toNat, x.2) else none
  | _ => none
theorem x_int {ι : List Addr} {H : Hp} {σ : L2.St} {i : Int} {v : V} (h : XRep W ι H σ (.int i) v) : v = .int i := by
  have := h.rep rfl
  unfold Rep at this
  exact this
theorem pi_rng1D {f : EvA} (hg : Gl X "range") (hm : X.mg "range" = none) (ha : PA X [a] (tevA W B f)) (hs : starEach [a] X.env = [(false, eval a X.env)]) : PI X tg (.Call (.Name "range" p) [a] [] pos) (tiv W B (fRng1 f)) := by
  refine pi_mono (pi_range1 hg hm ha hs) fun σ H R q => ?_
  obtain ⟨ι, z, ds, z', zr, e1, k⟩ := q
  unfold fRng1 at e1
  cases ea : f z with
  | none => rw [ea] at e1; cases e1
  | some x =>
    rw [ea, Option.bind_some] at e1
    split at e1
    · rename_i j hx
      split at e1
      · rename_i hb
        have hb := big_le hb
        cases e1
        refine ⟨ι, z, x.1, x.2, zr, ea, fun vs ι1 H1 k1 r1 zr1 => ?_⟩
        rw [hx] at r1
        cases r1 with
        | cons ra rt =>
          cases rt
          refine ⟨j, by rw [x_int ra], by omega, by omega, ?_⟩
          exact k _ _ ι1 H1 k1 zr1 wlk_rng trivial fun _ _ _ => trivial
      · cases e1
    · cases e1
theorem pi_rng2D {f : EvA} (hg : Gl X "range") (hm : X.mg "range" = none) (ha : PA X [a, b] (tevA W B f)) (hs : starEach [a, b] X.env = [(false, eval a X.env), (false, eval b X.env)]) (hs2 : starEach [b] X.env = [(false, eval b X.env)]) : PI X tg (.Call (.Name "range" p) [a, b] [] pos) (tiv W B (fRng2 f)) := by
  refine pi_mono (pi_range2 hg hm ha hs hs2) fun σ H R q => ?_
  obtain ⟨ι, z, ds, z', zr, e1, k⟩ := q
  unfold fRng2 at e1
  cases ea : f z with
  | none => rw [ea] at e1; cases e1
  | some x =>
    rw [ea, Option.bind_some] at e1
    split at e1
    · rename_i i j hx
      split at e1
      · rename_i hb
        rw [Bool.and_eq_true] at hb
        have hb1 := big_le hb.1
        have hb2 := big_le hb.2
        cases e1
        refine ⟨ι, z, x.1, x.2, zr, ea, fun vs ι1 H1 k1 r1 zr1 => ?_⟩
        rw [hx] at r1
        cases r1 with
        | cons ra rt =>
          cases rt with
          | cons rb rt2 =>
            cases rt2
            refine ⟨i, j, by rw [x_int ra, x_int rb], by omega, ?_⟩
            exact k _ _ ι1 H1 k1 zr1 wlk_rng trivial fun _ _ _ => trivial
      · cases e1
    · cases e1
def zipT : List D → List D → List D
  | d :: ds, e :: es => .tup [d, e] :: zipT ds es
  | _, _ => []
theorem zipT_len : ∀ (ds es : List D), (zipT ds es).length = min ds.length es.length
  | [], _ => by simp [zipT]
  | _ :: _, [] => by simp [zipT]
  | d :: ds, e :: es => by simp only [zipT, List.length_cons, zipT_len ds es]; omega
theorem zipT_get : ∀ (ds es : List D) (i : Nat) (d : D), (zipT ds es)[i]? = some d → ∃ x y, ds[i]? = some x ∧ es[i]? = some y ∧ d = .tup [x, y]
  | [], _, _, _, h => by simp [zipT] at h
  | _ :: _, [], _, _, h => by simp [zipT] at h
  | d :: ds, e :: es, 0, _, h => by simp [zipT] at h; exact ⟨d, e, rfl, rfl, h.symm⟩
  | d :: ds, e :: es, i + 1, d', h => by
    simp only [zipT, List.getElem?_cons_succ] at h ⊢
    exact zipT_get ds es i d' h
theorem wlk_pair {ι : List Addr} {H0 : Hp} {J : It} {n : Nat} {G : Hp → Prop} {xs ys : List V} {ds es : List D} (r1 : RepL W ι H0 ds xs) (r2 : RepL W ι H0 es ys) (w : Walk J n G (YPair (fun i => xs[i]?) (fun i => ys[i]?))) (hn : n = min ds.length es.length) : Wlk W ι H0 J (zipT ds es) G where
  goes := fun i H hi g => w.goes i H (by rw [hn, ← zipT_len]; exact hi) g
  stops := fun H g => by rw [zipT_len, ← hn]; exact w.stops H g
  yields := fun i H x H' hi g y => by
    obtain ⟨T, u, v, rfl, hT, rfl, hu, hv⟩ := w.yields i H x H' (by rw [hn, ← zipT_len]; exact hi) g y
    refine ⟨fun b o e => by rw [upd_ne (ne_of_none e hT)]; exact e, fun d ι1 hd k => ?_⟩
    obtain ⟨d1, d2, g1, g2, rfl⟩ := zipT_get ds es i d hd
    obtain ⟨u', hu', ru, pu⟩ := (r1.kp k).get g1
    obtain ⟨v', hv', rv, pv⟩ := (r2.kp k).get g2
    have e1 : xs[i]? = some u := hu
    have e2 : ys[i]? = some v := hv
    rw [hu'] at e1; cases e1
    rw [hv'] at e2; cases e2
    refine ⟨rfl, ?_⟩
    unfold Rep
    exact ⟨by rw [sizeLine_eq]; simp, T, _, rfl, upd_same, .cons pu (ru.kp (Kp.alloc hT) pu) (.cons pv (rv.kp (Kp.alloc hT) pv) .nil)⟩
theorem walk_zipT {K : PySem.W.Frag} {a b : Addr} {xs ys : List V} {n : Nat} (hn : n = min xs.length ys.length) : Walk (RZ.ItzT K a b) n (fun H => SqT K H a xs ∧ SqT K H b ys) (YPair (fun i => xs[i]?) (fun i => ys[i]?)) := by
  subst hn
  refine ⟨fun i _ hi q => ?_, fun _ q => ⟨xs, ys, q.1, q.2, by omega⟩, fun i H v H' _ q y => ?_⟩
  · have h1 : i < xs.length := by omega
    have h2 : i < ys.length := by omega
    exact ⟨xs, ys, xs[i], ys[i], q.1, q.2, by simp [h1], by simp [h2]⟩
  · obtain ⟨T, x, z, h1, h2, h3, h4, h5⟩ := y
    exact ⟨T, x, z, h1, h2, h3, h4 xs q.1, h5 ys q.2⟩
def fZip (f : EvA) : EvA := fun z => (f z).bind fun x => match x.1 with
  | [.lst ds, .lst es] => some (zipT ds es, x.2)
  | [.tup ds, .tup es] => some (zipT ds es, x.2)
  | _ => none
theorem pi_zipD {f : EvA} {elts : List Expr} {kk : Nat} {tpos : Pos} (hK : X.K = W.K) (hg : Gl X "zip") (hm : X.mg "zip" = none) (ha : PA X [a, b] (tevA W B f)) (hs : starEach [a, b] X.env = (false, eval a X.env) :: starEach [b] X.env) (hpl : (backTo pos (starEach [b] X.env)).any (·.1) = false) :
    PI X (.Tuple elts kk tpos) (.Call (.Name "zip" p) [a, b] [] pos) (tiv W B (fZip f)) := by
  refine pi_mono (RZ.pi_zipA hg hm ha hs hpl) fun σ H R q => ?_
  obtain ⟨ι, z, ds, z', zr, e1, k⟩ := q
  unfold fZip at e1
  cases ea : f z with
  | none => rw [ea] at e1; cases e1
  | some x =>
    rw [ea, Option.bind_some] at e1
    split at e1
    · rename_i l1 l2 hx
      cases e1
      refine ⟨ι, z, x.1, x.2, zr, ea, fun vs ι1 H1 k1 r1 zr1 => ?_⟩
      rw [hx] at r1
      cases r1 with
      | cons ra rt =>
        cases rt with
        | cons rb rt2 =>
          cases rt2
          have ra := ra.rep rfl
          have rb := rb.rep rfl
          unfold Rep at ra rb
          obtain ⟨_, p1, xs, rfl, f1, rl1⟩ := ra
          obtain ⟨_, p2, ys, rfl, f2, rl2⟩ := rb
          exact ⟨p1, p2, xs, ys, rfl, .inl ⟨hK ▸ f1.sq, hK ▸ f2.sq, k _ (fun H => Fz W.K H p1 xs ∧ Fz W.K H p2 ys) ι1 H1 k1 zr1 (wlk_pair rl1 rl2 ((walk_zip rfl).mono (fun _ h => ⟨hK ▸ h.1.sq, hK ▸ h.2.sq⟩) fun _ _ _ _ _ _ y => y) (by rw [rl1.length, rl2.length])) ⟨f1, f2⟩ fun ι2 H2 k2 => ⟨fz_kp k2 f1, fz_kp k2 f2⟩⟩⟩
    · rename_i l1 l2 hx
      cases e1
      refine ⟨ι, z, x.1, x.2, zr, ea, fun vs ι1 H1 k1 r1 zr1 => ?_⟩
      rw [hx] at r1
      cases r1 with
      | cons ra rt =>
        cases rt with
        | cons rb rt2 =>
          cases rt2
          have ra := ra.rep rfl
          have rb := rb.rep rfl
          unfold Rep at ra rb
          obtain ⟨_, p1, xs, rfl, f1, rl1⟩ := ra
          obtain ⟨_, p2, ys, rfl, f2, rl2⟩ := rb
          replace f1 : SqT W.K H1 p1 xs := SqT.of f1
          replace f2 : SqT W.K H1 p2 ys := SqT.of f2
          rw [hK]
          exact ⟨p1, p2, xs, ys, rfl, .inr ⟨f1, f2, k _ (fun H => SqT W.K H p1 xs ∧ SqT W.K H p2 ys) ι1 H1 k1 zr1 (wlk_pair rl1 rl2 (walk_zipT rfl) (by rw [rl1.length, rl2.length])) ⟨f1, f2⟩ fun ι2 H2 k2 => ⟨fz_sqT k2.fz f1, fz_sqT k2.fz f2⟩⟩⟩
    · cases e1
theorem wipe_get (σ : L2.St) (j : Nat) : ∀ vs : List Nat, (wipe σ vs)[j]? = if j ∈ vs then (if j < σ.length then some none else none) else σ[j]?
  | [] => by simp [wipe]
  | v :: vs => by
    unfold wipe
    by_cases hj : v = j
    · subst hj
      rw [if_pos List.mem_cons_self]
      by_cases hl : v < σ.length
      · rw [if_pos hl, List.getElem?_set_self (by rw [wipe_length]; exact hl)]
      · rw [if_neg hl, List.getElem?_eq_none (by simp [wipe_length]; omega)]
    · rw [List.getElem?_set_ne hj, wipe_get σ j vs]
      have : (j ∈ v :: vs) ↔ j ∈ vs := by
        simp only [List.mem_cons]
        exact ⟨fun h => h.elim (fun e => absurd e.symm hj) id, .inr⟩
      simp only [this]
theorem wipe_set {σ : L2.St} {i : Nat} {x : Option V} {vs : List Nat} (h : i ∈ vs) : wipe (σ.set i x) vs = wipe σ vs := by
  apply List.ext_getElem?
  intro j
  rw [wipe_get, wipe_get, List.length_set]
  by_cases hj : j ∈ vs
  · rw [if_pos hj, if_pos hj]
  · rw [if_neg hj, if_neg hj, List.getElem?_set_ne (by rintro rfl; exact hj h)]
theorem wipe_wipe (σ : L2.St) (vs : List Nat) : wipe (wipe σ vs) vs = wipe σ vs := by
  apply List.ext_getElem?
  intro j
  rw [wipe_get, wipe_get, wipe_length]
  by_cases hj : j ∈ vs
  · rw [if_pos hj, if_pos hj]
  · rw [if_neg hj, if_neg hj]
def wipeR (ρ : Rho) : List Nat → Rho
  | [] => ρ
  | v :: vs => (wipeR ρ vs).set v none
theorem wipeR_len (ρ : Rho) : ∀ vs, (wipeR ρ vs).length = ρ.length
  | [] => rfl
  | v :: vs => by unfold wipeR; rw [List.length_set, wipeR_len ρ vs]
theorem wipeR_get {ρ : Rho} {j : Nat} {dv : DV} : ∀ {vs : List Nat}, (wipeR ρ vs)[j]? = some (some dv) → ρ[j]? = some (some dv) ∧ j ∉ vs
  | [], h => ⟨h, by simp⟩
  | v :: vs, h => by
    unfold wipeR at h
    by_cases hj : v = j
    · subst hj
      by_cases hl : v < (wipeR ρ vs).length
      · rw [List.getElem?_set_self hl] at h; cases h
      · rw [List.getElem?_eq_none (by simpa using hl)] at h; cases h
    · rw [List.getElem?_set_ne hj] at h
      obtain ⟨h1, h2⟩ := wipeR_get h
      exact ⟨h1, by simp only [List.mem_cons, not_or]; exact ⟨fun e => hj e.symm, h2⟩⟩
theorem ZR.wiped {ι : List Addr} {H : Hp} {σ σ' : L2.St} {z : Z} {vs : List Nat} (zr : ZR W B ι H σ z) (h : L2.wipe σ vs = L2.wipe σ' vs) (hl : σ.length = σ'.length) : ZR W B ι H (L2.wipe σ' vs) (wipeR z.1 vs, z.2) := by
  have gt : ∀ {j : Nat}, j ∉ vs → (L2.wipe σ' vs)[j]? = σ[j]? := fun {j} hj => by
    rw [← h, wipe_get, if_neg hj]
  refine ⟨zr.st, zr.pre, zr.new, zr.keep, zr.newP, zr.keepP, by show (wipeR z.1 vs).length = _; rw [wipeR_len, wipe_length, zr.len, hl], fun j dv hj => ?_, fun j1 j2 dv dv' a' h1 o1 h2 o2 s1 s2 => ?_⟩
  · obtain ⟨g, n⟩ := wipeR_get hj
    obtain ⟨v, hv, r⟩ := zr.slot j dv g
    exact ⟨v, by rw [gt n]; exact hv, r⟩
  · obtain ⟨g1, n1⟩ := wipeR_get h1
    obtain ⟨g2, n2⟩ := wipeR_get h2
    rw [gt n1] at s1
    rw [gt n2] at s2
    exact zr.dis j1 j2 dv dv' a' g1 o1 g2 o2 s1 s2
/-- the slots of a comprehension as they were ahead of it (those with lasting data) -/
def backR (r s : Rho) : List Nat → Rho
  | [] => s
  | v :: vs => (backR r s vs).set v (match r[v]? with
    | some (some (.imm d)) => some (.imm d)
    | _ => none)
theorem backR_len (r s : Rho) : ∀ vs, (backR r s vs).length = s.length
  | [] => rfl
  | v :: vs => by unfold backR; rw [List.length_set, backR_len r s vs]
theorem backR_get {r s : Rho} {j : Nat} {dv : DV} : ∀ {vs : List Nat}, (backR r s vs)[j]? = some (some dv) → (j ∉ vs ∧ s[j]? = some (some dv)) ∨ (j ∈ vs ∧ ∃ d, dv = .imm d ∧ r[j]? = some (some (.imm d)))
  | [], h => .inl ⟨by simp, h⟩
  | v :: vs, h => by
    unfold backR at h
    by_cases hj : v = j
    · subst hj
      by_cases hl : v < (backR r s vs).length
      · rw [List.getElem?_set_self hl] at h
        refine .inr ⟨List.mem_cons_self, ?_⟩
        split at h
        · rename_i d q
          cases h
          exact ⟨d, rfl, q⟩
        · cases h
      · rw [List.getElem?_eq_none (by simpa using hl)] at h; cases h
    · rw [List.getElem?_set_ne hj] at h
      rcases backR_get h with ⟨h1, h2⟩ | ⟨h1, h2⟩
      · exact .inl ⟨by simp only [List.mem_cons, not_or]; exact ⟨fun e => hj e.symm, h1⟩, h2⟩
      · exact .inr ⟨List.mem_cons_of_mem _ h1, h2⟩
theorem ZR.back {ι ι' : List Addr} {H H' : Hp} {σ : L2.St} {z z' : Z} {vs : List Nat} (zr : ZR W B ι H σ z) (k : Kp ι H ι' H') (zr' : ZR W B ι' H' (L2.wipe σ vs) z') : ZR W B ι' H' σ (backR z.1 z'.1 vs, z'.2) := by
  have gt : ∀ {j : Nat}, j ∉ vs → (L2.wipe σ vs)[j]? = σ[j]? := fun {j} hj => by rw [wipe_get, if_neg hj]
  refine ⟨zr'.st, zr'.pre, zr'.new, zr'.keep, zr'.newP, zr'.keepP, by show (backR z.1 z'.1 vs).length = _; rw [backR_len, zr'.len, wipe_length], fun j dv hj => ?_, fun j1 j2 dv dv' a' h1 o1 h2 o2 s1 s2 => ?_⟩
  · rcases backR_get hj with ⟨n, g⟩ | ⟨m, d, rfl, g⟩
    · obtain ⟨v, hv, r⟩ := zr'.slot j dv g
      exact ⟨v, by rw [← gt n]; exact hv, r⟩
    · obtain ⟨v, hv, p, r⟩ := zr.slot j _ g
      exact ⟨v, hv, p, r.kp k p⟩
  · rcases backR_get h1 with ⟨n1, g1⟩ | ⟨_, d, rfl, _⟩
    · rcases backR_get h2 with ⟨n2, g2⟩ | ⟨_, d, rfl, _⟩
      · rw [← gt n1] at s1
        rw [← gt n2] at s2
        exact zr'.dis j1 j2 dv dv' a' g1 o1 g2 o2 s1 s2
      · cases o2
    · cases o1
/-- a list in the making is kept: another base -/
theorem ZR.guard {ι : List Addr} {H : Hp} {σ : L2.St} {z : Z} {p : Addr} {o : HO} (zr : ZR W B ι H σ z) (fr : Fr B ι σ z p) (hp : H p = some o) : ZR W ⟨B.ι, B.H, upd B.P p o⟩ ι H σ z := by
  refine ⟨zr.st, zr.pre, zr.new, zr.keep, fun a ha => ?_, fun b u x => ?_, zr.len, fun i dv x => ?_, zr.dis⟩
  · show upd B.P p o a = none
    rw [upd_ne (fun q : a = p => fr.i (q ▸ ha))]
    exact zr.newP a ha
  · by_cases hb : b = p
    · subst hb
      have x : upd B.P b o b = some u := x
      rw [upd_same] at x; cases x
      exact .inl hp
    · have x : upd B.P p o b = some u := x
      rw [upd_ne hb] at x
      exact zr.keepP b u x
  · obtain ⟨v, hv, r⟩ := zr.slot i dv x
    refine ⟨v, hv, ?_⟩
    have off : ∀ a, dv.isOwn = true → v = .ref a → upd B.P p o a = B.P a := fun a ho e => upd_ne fun q => fr.o i dv x ho (by rw [hv, e, q])
    cases dv with
    | imm d => exact r
    | own ds =>
      obtain ⟨l, a, xs, e, y, b, n, rl⟩ := r
      exact ⟨l, a, xs, e, y, ⟨b.1, (off a rfl e).trans b.2⟩, n, rl⟩
    | oT ds =>
      obtain ⟨l, a, xs, e, y, b, n, rl⟩ := r
      exact ⟨l, a, xs, e, y, ⟨b.1, (off a rfl e).trans b.2⟩, n, rl⟩
    | oK ds =>
      obtain ⟨l, a, xs, e, y, b, n, rl⟩ := r
      exact ⟨l, a, xs, e, y, ⟨b.1, (off a rfl e).trans b.2⟩, n, rl⟩
    | brw ds => exact r
    | obj a => exact r
theorem ZR.unguard {ι : List Addr} {H : Hp} {σ : L2.St} {z : Z} {p : Addr} {o : HO} (hb : B.fr p) (zr : ZR W ⟨B.ι, B.H, upd B.P p o⟩ ι H σ z) (nt : nTb o = true := by rfl) : ZR W B ι H σ z ∧ Fr B ι σ z p ∧ H p = some o := by
  have hp : H p = some o := (zr.keepP p o upd_same).eq nt
  have nn : ∀ b, upd B.P p o b = none → B.P b = none := fun b e => by
    by_cases q : b = p
    · rw [q]; exact hb.2
    · rw [upd_ne q] at e; exact e
  have np : ∀ b, upd B.P p o b = none → b ≠ p := fun b e q => by rw [q, upd_same] at e; cases e
  refine ⟨⟨zr.st, zr.pre, zr.new, zr.keep, fun a ha => nn a (zr.newP a ha), fun b u e => zr.keepP b u ?_, zr.len, fun i dv x => ?_, zr.dis⟩, ⟨hb, fun h => np p (zr.newP p h) rfl, fun j dv x ho hs => ?_⟩, hp⟩
  · show upd B.P p o b = some u
    rw [upd_ne (fun q => by rw [q, hb.2] at e; cases e)]
    exact e
  · obtain ⟨v, hv, r⟩ := zr.slot i dv x
    refine ⟨v, hv, ?_⟩
    cases dv with
    | imm d => exact r
    | own ds =>
      obtain ⟨l, a, xs, e, y, b, n, rl⟩ := r
      exact ⟨l, a, xs, e, y, ⟨b.1, nn a b.2⟩, n, rl⟩
    | oT ds =>
      obtain ⟨l, a, xs, e, y, b, n, rl⟩ := r
      exact ⟨l, a, xs, e, y, ⟨b.1, nn a b.2⟩, n, rl⟩
    | oK ds =>
      obtain ⟨l, a, xs, e, y, b, n, rl⟩ := r
      exact ⟨l, a, xs, e, y, ⟨b.1, nn a b.2⟩, n, rl⟩
    | brw ds => exact r
    | obj a => exact r
  · obtain ⟨v, hv, r⟩ := zr.slot j dv x
    rw [hs] at hv; cases hv
    cases dv with
    | imm d => cases ho
    | brw d => cases ho
    | obj a => cases ho
    | own ds => obtain ⟨l, a, xs, e, y, b, n, rl⟩ := r; cases e; exact np _ b.2 rfl
    | oT ds => obtain ⟨l, a, xs, e, y, b, n, rl⟩ := r; cases e; exact np _ b.2 rfl
    | oK ds => obtain ⟨l, a, xs, e, y, b, n, rl⟩ := r; cases e; exact np _ b.2 rfl
end
end DE
set_option Elab.async false
set_option linter.all false
set_option maxRecDepth 100000
set_option maxHeartbeats 4000000
namespace DE
open PySem PySem.Spec L2
/-- a comprehension's target: a name, or names -/
inductive CT where
  | nm (i : Nat) | tp (is : List Nat)
def CT.slots : CT → List Nat
  | .nm i => [i]
  | .tp is => is
def setsR (ρ : Rho) : List Nat → List D → Rho
  | i :: is, d :: ds => setsR (ρ.set i (some (.imm d))) is ds
  | _, _ => ρ
def setsV (σ : L2.St) : List Nat → List V → L2.St
  | i :: is, v :: vs => setsV (σ.set i (some v)) is vs
  | _, _ => σ
def ctD : CT → D → Z → Option Z
  | .nm i, d, z => some (z.1.set i (some (.imm d)), z.2)
  | .tp is, d, z => (itemsOf d).bind fun ds => if ds.length = is.length then some (setsR z.1 is ds, z.2) else none
def gNames (is : List Nat) : TGs := fun vs σ H Q => vs.length = is.length ∧ Q (setsV σ is vs) H
def ctg (K : PySem.W.Frag) : CT → TG
  | .nm i => gName i
  | .tp is => fun v σ H Q => gTup K is.length (gNames is) v σ H Q ∨ gUnl K is.length (gNames is) v σ H Q
def compL (ct : CT) (t : EvT) (f : Ev) (vs : List Nat) : List D → Z → List D → Option (List D × Z)
  | [], z, acc => some (acc, z)
  | d :: ds, z, acc => (ctD ct d z).bind fun z1 => (t z1).bind fun x => if x.1 then (f x.2).bind fun y => if y.1.plain && Nat.blt acc.length 16777216 then compL ct t f vs ds (wipeR y.2.1 vs, y.2.2) (acc ++ [y.1]) else none else compL ct t f vs ds (wipeR x.2.1 vs, x.2.2) acc
def fComp (fi : EvA) (ct : CT) (t : EvT) (f : Ev) (vs : List Nat) : EvA := fun z => (fi z).bind fun x => (compL ct t f vs x.1 (wipeR x.2.1 vs, x.2.2) []).map fun y => (y.1, (backR x.2.1 y.2.1 vs, y.2.2))
def tevX (W : Wd) (f : Ev) : TE := fun σ H Q => ∃ B, tev W B f σ H Q
def ttvX (W : Wd) (f : EvT) : TT := fun σ H Q => ∃ B, ttv W B f σ H Q
section
variable {X : Cx} {W : Wd} {B : Bs} {a b c e tg : Expr} {fa fb fc : Ev} {pos p : Pos}
theorem pe_anyB {f : Ev} (h : ∀ B, PE X e (tev W B f)) : PE X e (tevX W f) := ⟨fun pins s σ H Q I ⟨B, q⟩ => (h B).run pins s σ H Q I q⟩
theorem pts_anyB {ifs : List Expr} {f : EvT} (h : ∀ B, PTs X ifs (ttv W B f)) : PTs X ifs (ttvX W f) := ⟨fun pins s σ H Q I ⟨B, q⟩ => (h B).run pins s σ H Q I q⟩
theorem wipe_sets {vs : List Nat} : ∀ {is : List Nat} {xs : List V} {σ : L2.St}, (∀ i ∈ is, i ∈ vs) → wipe (setsV σ is xs) vs = wipe σ vs
  | [], _, _, _ => by unfold setsV; rfl
  | i :: is, [], _, _ => by unfold setsV; rfl
  | i :: is, x :: xs, σ, h => by
    unfold setsV
    rw [wipe_sets fun j hj => h j (List.mem_cons_of_mem _ hj), wipe_set (h i List.mem_cons_self)]
theorem sets_len : ∀ {is : List Nat} {xs : List V} {σ : L2.St}, (setsV σ is xs).length = σ.length
  | [], _, _ => by unfold setsV; rfl
  | i :: is, [], _ => by unfold setsV; rfl
  | i :: is, x :: xs, σ => by unfold setsV; rw [sets_len, List.length_set]
theorem ZR.sets : ∀ {is : List Nat} {ds : List D} {xs : List V} {ι : List Addr} {H : Hp} {σ : L2.St} {z : Z}, ZR W B ι H σ z → RepL W ι H ds xs → ZR W B ι H (setsV σ is xs) (setsR z.1 is ds, z.2)
  | [], _, _, _, _, _, _, zr, _ => by unfold setsV setsR; exact zr
  | i :: is, [], _, _, _, _, _, zr, r => by
    unfold RepL at r; subst r
    unfold setsV setsR; exact zr
  | i :: is, d :: ds, _, _, _, _, _, zr, r => by
    unfold RepL at r
    obtain ⟨v, vs, rfl, p, h1, h2⟩ := r
    unfold setsV setsR
    exact ZR.sets (zr.set p h1) h2
/-- the target takes the item -/
theorem ctg_run {ct : CT} {ι : List Addr} {H : Hp} {σ : L2.St} {z z' : Z} {d : D} {v : V} {vs : List Nat} {Q : L2.St → Hp → Prop} (hK : X.K = W.K) (zr : ZR W B ι H σ z) (p : d.plain = true) (r : Rep W ι H d v) (e : ctD ct d z = some z') (hs : ∀ i ∈ ct.slots, i ∈ vs)
    (k : ∀ σ', wipe σ' vs = wipe σ vs → σ'.length = σ.length → ZR W B ι H σ' z' → Q σ' H) : ctg X.K ct v σ H Q := by
  cases ct with
  | nm i =>
    cases e
    exact k _ (wipe_set (hs i (List.mem_singleton.mpr rfl))) (List.length_set ..) (zr.set p r)
  | tp is =>
    have e : ((itemsOf d).bind fun ds => if ds.length = is.length then some ((setsR z.1 is ds, z.2) : Z) else none) = some z' := e
    cases e2 : itemsOf d with
    | none => rw [e2] at e; cases e
    | some ds =>
      rw [e2, Option.bind_some] at e
      split at e
      · rename_i hl
        cases e
        cases d with
        | tup l =>
          cases e2
          unfold Rep at r
          obtain ⟨_, a, xs, ev, hx, rl⟩ := r
          have hl' : xs.length = is.length := by rw [← rl.length]; exact hl
          exact .inl ⟨a, xs, ev, SqT.of hx, hl', hl', k _ (wipe_sets hs) sets_len (zr.sets rl)⟩
        | lst l =>
          cases e2
          unfold Rep at r
          obtain ⟨_, a, xs, ev, hx, rl⟩ := r
          have hl' : xs.length = is.length := by rw [← rl.length]; exact hl
          exact .inr ⟨a, xs, ev, (hK.symm ▸ hx.sq), hl', hl', k _ (wipe_sets hs) sets_len (zr.sets rl)⟩
        | _ => cases e2
      · cases e
theorem tlc_of {fi : EvA} {ct : CT} {t : EvT} {f : Ev} {vs : List Nat} (hK : X.K = W.K) (hct : ∀ i ∈ ct.slots, i ∈ vs) (σ : L2.St) (H : Hp) (Q : VK) (q : tfr W B (fComp fi ct t f vs) σ H Q) : tLc (tiv W B fi) (ctg X.K ct) (ttvX W t) (tevX W f) vs σ H Q := by
  obtain ⟨ι, z, rs, z', zr, e1, k⟩ := q
  unfold fComp at e1
  cases ei : fi z with
  | none => rw [ei] at e1; cases e1
  | some x =>
    rw [ei, Option.bind_some] at e1
    obtain ⟨its, z1⟩ := x
    cases ec : compL ct t f vs its (wipeR z1.1 vs, z1.2) [] with
    | none => rw [ec] at e1; cases e1
    | some y =>
      rw [ec] at e1; cases e1
      refine ⟨ι, z, its, z1, zr, ei, fun J G ι1 H1 k1 zr1 wl g1 gk D hD => ?_⟩
      have zw1 : ZR W B ι1 H1 (wipe σ vs) (wipeR z1.1 vs, z1.2) := zr1.wiped rfl rfl
      have frD : B.fr D := (Fr.of zr1 hD).b
      refine ⟨fun i m H2 => m = its.length - i ∧ i ≤ its.length ∧ ∃ ι2 z2 acc accV, Kp ι1 H1 ι2 H2 ∧ ZR W B ι2 H2 (wipe σ vs) z2 ∧ Fr B ι2 (wipe σ vs) z2 D ∧ H2 D = some (.lst accV) ∧ RepL W ι2 H2 acc accV ∧ acc.length ≤ sizeLine ∧ compL ct t f vs (its.drop i) z2 acc = some y,
        ⟨its.length, by simp, Nat.zero_le _, ι1, _, [], [], Kp.alloc hD, zw1.alloc hD, ⟨frD, (Fr.of zr1 hD).i, (Fr.of zw1 hD).o⟩, upd_same, .nil, Nat.zero_le _, by simpa using ec⟩, ?_⟩
      rintro i m H2 ⟨rfl, hile, ι2, z2, acc, accV, k2, zr2, fr2, hD2, rl2, al2, e2⟩
      have g2 := gk ι2 H2 k2
      by_cases hlt : i < its.length
      · have hd : its.drop i = its[i] :: its.drop (i + 1) := List.drop_eq_getElem_cons hlt
        rw [hd] at e2
        unfold compL at e2
        cases eg : ctD ct its[i] z2 with
        | none => rw [eg] at e2; cases e2
        | some z3 =>
          rw [eg, Option.bind_some] at e2
          cases et : t z3 with
          | none => rw [et] at e2; cases e2
          | some xt =>
            rw [et, Option.bind_some] at e2
            obtain ⟨bt, z4⟩ := xt
            refine .inr ⟨wl.goes i H2 hlt g2, fun H5 => ∃ ι5 z5 acc5 accV5, Kp ι1 H1 ι5 H5 ∧ ZR W B ι5 H5 (wipe σ vs) z5 ∧ Fr B ι5 (wipe σ vs) z5 D ∧ H5 D = some (.lst accV5) ∧ RepL W ι5 H5 acc5 accV5 ∧ acc5.length ≤ sizeLine ∧ compL ct t f vs (its.drop (i + 1)) z5 acc5 = some y, ?_, ?_⟩
            · rintro H5 ⟨ι5, z5, acc5, accV5, h5⟩
              exact ⟨its.length - (i + 1), by omega, rfl, hlt, ι5, z5, acc5, accV5, h5⟩
            · intro x H3 hy
              obtain ⟨sm, yl⟩ := wl.yields i H2 x H3 hlt g2 hy
              obtain ⟨pl, rp⟩ := yl its[i] ι2 (List.getElem?_eq_getElem hlt) k2
              have zr3 : ZR W ⟨B.ι, B.H, upd B.P D (.lst accV)⟩ ι2 H3 (wipe σ vs) z2 := (zr2.guard fr2 hD2).same sm
              have k3 : Kp ι1 H1 ι2 H3 := k2.trans (Kp.same sm)
              refine ctg_run hK zr3 pl rp eg hct fun σ2 hw hl2 zr4 => ⟨by rw [hw, wipe_wipe], ⟨⟨B.ι, B.H, upd B.P D (.lst accV)⟩, ι2, z3, bt, z4, zr4, et, fun ι5 H5 k5 zr5 => ?_⟩⟩
              have hl3 : σ2.length = σ.length := by rw [hl2, wipe_length]
              have hw3 : wipe σ2 vs = wipe σ vs := by rw [hw, wipe_wipe]
              cases bt with
              | false =>
                dsimp only
                rw [if_neg Bool.false_ne_true]
                obtain ⟨zu, fu, hu⟩ := ZR.unguard frD zr5
                have zw := zu.wiped hw3 hl3
                refine ⟨ι5, _, acc, accV, k3.trans k5, zw, ⟨frD, fu.i, fun j dv hj ho hs => ?_⟩, hu, rl2.kp ((Kp.same sm).trans k5), al2, e2⟩
                obtain ⟨g, n⟩ := wipeR_get hj
                refine fu.o j dv g ho ?_
                rw [wipe_get, if_neg n] at hs
                have : (wipe σ2 vs)[j]? = (wipe σ vs)[j]? := by rw [hw3]
                rw [wipe_get, wipe_get, if_neg n, if_neg n] at this
                rw [this]; exact hs
              | true =>
                dsimp only
                rw [if_pos rfl]
                simp only [if_true] at e2
                cases ef : f z4 with
                | none => rw [ef] at e2; cases e2
                | some yf =>
                  rw [ef, Option.bind_some] at e2
                  split at e2
                  · rename_i hcond
                    rw [Bool.and_eq_true] at hcond
                    have hlen : acc.length < 16777216 := by
                      have := Nat.le_of_ble_eq_true hcond.2
                      omega
                    refine ⟨⟨B.ι, B.H, upd B.P D (.lst accV)⟩, ι5, z4, yf.1, yf.2, zr5, ef, fun vy ι6 H6 k6 r6 zr6 => ?_⟩
                    obtain ⟨zu, fu, hu⟩ := ZR.unguard frD zr6
                    have rl6 : RepL W ι6 H6 acc accV := rl2.kp (((Kp.same sm).trans k5).trans k6)
                    have k7 : Kp ι6 H6 ι6 (upd H6 D (.lst (accV ++ [vy]))) := Kp.at_ hu rfl (fun _ _ _ q => by cases q)
                    have zw := (zu.at_fr fu (nte_lst hu) k7).wiped hw3 hl3
                    refine ⟨accV, hu, by rw [← rl6.length, sizeLine_eq]; exact hlen, ι6, _, acc ++ [yf.1], accV ++ [vy], ((k3.trans k5).trans k6).trans k7, zw, ⟨frD, fu.i, fun j dv hj ho hs => ?_⟩, upd_same, (rl6.append (.cons hcond.1 (r6.rep hcond.1) .nil)).kp k7, by rw [List.length_append, sizeLine_eq]; simp; omega, e2⟩
                    obtain ⟨g, n⟩ := wipeR_get hj
                    refine fu.o j dv g ho ?_
                    rw [wipe_get, if_neg n] at hs
                    have : (wipe σ2 vs)[j]? = (wipe σ vs)[j]? := by rw [hw3]
                    rw [wipe_get, wipe_get, if_neg n, if_neg n] at this
                    rw [this]; exact hs
                  · cases e2
      · have e : i = its.length := by omega
        subst e
        rw [List.drop_length] at e2
        cases e2
        refine .inl ⟨wl.stops H2 g2, ?_⟩
        have zb := zr1.back k2 zr2
        refine k D accV ι2 H2 (k1.trans k2) zb rl2 al2 (k1.th D hD) hD2 ⟨frD, fr2.i, fun j dv hj ho hs => ?_⟩
        rcases backR_get hj with ⟨n, g⟩ | ⟨_, d, rfl, _⟩
        · exact fr2.o j dv g ho (by rw [wipe_get, if_neg n]; exact hs)
        · cases ho
theorem pe_compD {elt iter : Expr} {ifs : List Expr} {scope : Scope} {own : List (Str × Nat)} {fi : EvA} {ct : CT} {t : EvT} {f : Ev} (hK : X.K = W.K) (hc : X.calm = true) (hN : X.N.Nodup) (hi : PI X tg iter (tiv W B fi)) (ok : BlkOk X.N X.env.scope scope own)
    (hg : ∀ (s : Shared) (H : Hp) (C : Addr) (cl : List (Str × Addr)) (fp : List Addr), PG (X.blk s H scope (compEnvC scope cl C X.env) fp) tg (ctg X.K ct)) (hct : ∀ i ∈ ct.slots, i ∈ own.map (·.2))
    (ht : ∀ (s : Shared) (H : Hp) (C : Addr) (cl : List (Str × Addr)) (fp : List Addr) (B : Bs), PTs (X.blk s H scope (compEnvC scope cl C X.env) fp) ifs (ttv W B t))
    (he : ∀ (s : Shared) (H : Hp) (C : Addr) (cl : List (Str × Addr)) (fp : List Addr) (B : Bs), PE (X.blk s H scope (compEnvC scope cl C X.env) fp) elt (tev W B f)) (hs : ∀ x, foldedSetIterable iter X.env x = pure x) :
    PE X (.ListComp elt [⟨tg, iter, ifs, 0⟩] scope pos) (tfr W B (fComp fi ct t f (own.map (·.2)))) := by
  exact pe_mono (pe_lc hc hN hi ok hg (fun s H C cl fp => pts_anyB (ht s H C cl fp)) (fun s H C cl fp => pe_anyB (he s H C cl fp)) hs) (tlc_of hK hct)
def comp2L (ct : CT) (t : EvT) (fi1 : EvA) (ct1 : CT) (t1 : EvT) (f : Ev) (vs vs1 : List Nat) : List D → Z → List D → Option (List D × Z)
  | [], z, acc => some (acc, z)
  | d :: ds, z, acc => (ctD ct d z).bind fun z1 => (t z1).bind fun x => if x.1 then (fi1 x.2).bind fun y => (compL ct1 t1 f vs1 y.1 (wipeR y.2.1 vs1, y.2.2) acc).bind fun w => comp2L ct t fi1 ct1 t1 f vs vs1 ds (wipeR w.2.1 vs, w.2.2) w.1 else comp2L ct t fi1 ct1 t1 f vs vs1 ds (wipeR x.2.1 vs, x.2.2) acc
def fComp2 (fi : EvA) (ct : CT) (t : EvT) (fi1 : EvA) (ct1 : CT) (t1 : EvT) (f : Ev) (vs vs1 : List Nat) : EvA := fun z => (fi z).bind fun x => (comp2L ct t fi1 ct1 t1 f vs vs1 x.1 (wipeR x.2.1 vs, x.2.2) []).map fun y => (y.1, (backR x.2.1 y.2.1 vs, y.2.2))
def tivX (W : Wd) (f : EvA) : TI := fun σ H R => ∃ B, tiv W B f σ H R
theorem pi_anyB {iter : Expr} {f : EvA} (h : ∀ B, PI X tg iter (tiv W B f)) : PI X tg iter (tivX W f) := ⟨fun pins s σ H R I ⟨B, q⟩ => (h B).run pins s σ H R I q⟩
theorem wipe_sub (σ : L2.St) {vs vs1 : List Nat} (hv : ∀ i ∈ vs1, i ∈ vs) : wipe (wipe σ vs1) vs = wipe σ vs := by
  apply List.ext_getElem?
  intro j
  rw [wipe_get (wipe σ vs1) j vs, wipe_get σ j vs, wipe_length]
  by_cases hj : j ∈ vs
  · rw [if_pos hj, if_pos hj]
  · rw [if_neg hj, if_neg hj, wipe_get, if_neg fun q => hj (hv j q)]
theorem fr_wipe {ι : List Addr} {σ σ' : L2.St} {z : Z} {vs : List Nat} {D : Addr} (fu : Fr B ι σ z D) (hw : wipe σ vs = wipe σ' vs) : Fr B ι (wipe σ' vs) (wipeR z.1 vs, z.2) D := ⟨fu.b, fu.i, fun j dv hj ho hs => by
  obtain ⟨g, n⟩ := wipeR_get hj
  refine fu.o j dv g ho ?_
  rw [← hw, wipe_get, if_neg n] at hs
  exact hs⟩
theorem tlc2_of {fi fi1 : EvA} {ct ct1 : CT} {t t1 : EvT} {f : Ev} {vs vs1 : List Nat} (hK : X.K = W.K) (hct : ∀ i ∈ ct.slots, i ∈ vs) (hct1 : ∀ i ∈ ct1.slots, i ∈ vs1) (hv : ∀ i ∈ vs1, i ∈ vs) (σ : L2.St) (H : Hp) (Q : VK) (q : tfr W B (fComp2 fi ct t fi1 ct1 t1 f vs vs1) σ H Q) : tLc2 (tiv W B fi) (ctg X.K ct) (ttvX W t) (tivX W fi1) (ctg X.K ct1) (ttvX W t1) (tevX W f) vs vs1 σ H Q := by
  obtain ⟨ι, z, rs, z', zr, e1, k⟩ := q
  unfold fComp2 at e1
  cases ei : fi z with
  | none => rw [ei] at e1; cases e1
  | some x =>
    rw [ei, Option.bind_some] at e1
    obtain ⟨its, z1⟩ := x
    cases ec : comp2L ct t fi1 ct1 t1 f vs vs1 its (wipeR z1.1 vs, z1.2) [] with
    | none => rw [ec] at e1; cases e1
    | some y =>
      rw [ec] at e1; cases e1
      refine ⟨ι, z, its, z1, zr, ei, fun J G ι1 H1 k1 zr1 wl g1 gk D hD => ?_⟩
      have zw1 : ZR W B ι1 H1 (wipe σ vs) (wipeR z1.1 vs, z1.2) := zr1.wiped rfl rfl
      have frD : B.fr D := (Fr.of zr1 hD).b
      refine ⟨fun i m H2 => m = its.length - i ∧ i ≤ its.length ∧ ∃ ι2 z2 acc accV, Kp ι1 H1 ι2 H2 ∧ ZR W B ι2 H2 (wipe σ vs) z2 ∧ Fr B ι2 (wipe σ vs) z2 D ∧ H2 D = some (.lst accV) ∧ RepL W ι2 H2 acc accV ∧ acc.length ≤ sizeLine ∧ comp2L ct t fi1 ct1 t1 f vs vs1 (its.drop i) z2 acc = some y,
        ⟨its.length, by simp, Nat.zero_le _, ι1, _, [], [], Kp.alloc hD, zw1.alloc hD, ⟨frD, (Fr.of zr1 hD).i, (Fr.of zw1 hD).o⟩, upd_same, .nil, Nat.zero_le _, by simpa using ec⟩, ?_⟩
      rintro i m H2 ⟨rfl, hile, ι2, z2, acc, accV, k2, zr2, fr2, hD2, rl2, al2, e2⟩
      have g2 := gk ι2 H2 k2
      by_cases hlt : i < its.length
      · have hd : its.drop i = its[i] :: its.drop (i + 1) := List.drop_eq_getElem_cons hlt
        rw [hd] at e2
        unfold comp2L at e2
        cases eg : ctD ct its[i] z2 with
        | none => rw [eg] at e2; cases e2
        | some z3 =>
          rw [eg, Option.bind_some] at e2
          cases et : t z3 with
          | none => rw [et] at e2; cases e2
          | some xt =>
            rw [et, Option.bind_some] at e2
            obtain ⟨bt, z4⟩ := xt
            refine .inr ⟨wl.goes i H2 hlt g2, fun H5 => ∃ ι5 z5 acc5 accV5, Kp ι1 H1 ι5 H5 ∧ ZR W B ι5 H5 (wipe σ vs) z5 ∧ Fr B ι5 (wipe σ vs) z5 D ∧ H5 D = some (.lst accV5) ∧ RepL W ι5 H5 acc5 accV5 ∧ acc5.length ≤ sizeLine ∧ comp2L ct t fi1 ct1 t1 f vs vs1 (its.drop (i + 1)) z5 acc5 = some y, ?_, ?_⟩
            · rintro H5 ⟨ι5, z5, acc5, accV5, h5⟩
              exact ⟨its.length - (i + 1), by omega, rfl, hlt, ι5, z5, acc5, accV5, h5⟩
            · intro x H3 hy
              obtain ⟨sm, yl⟩ := wl.yields i H2 x H3 hlt g2 hy
              obtain ⟨pl, rp⟩ := yl its[i] ι2 (List.getElem?_eq_getElem hlt) k2
              have zr3 : ZR W ⟨B.ι, B.H, upd B.P D (.lst accV)⟩ ι2 H3 (wipe σ vs) z2 := (zr2.guard fr2 hD2).same sm
              have k3 : Kp ι1 H1 ι2 H3 := k2.trans (Kp.same sm)
              refine ctg_run hK zr3 pl rp eg hct fun σ2 hw hl2 zr4 => ⟨by rw [hw, wipe_wipe], ⟨⟨B.ι, B.H, upd B.P D (.lst accV)⟩, ι2, z3, bt, z4, zr4, et, fun ι5 H5 k5 zr5 => ?_⟩⟩
              have hl3 : σ2.length = σ.length := by rw [hl2, wipe_length]
              have hw3 : wipe σ2 vs = wipe σ vs := by rw [hw, wipe_wipe]
              cases bt with
              | false =>
                dsimp only
                rw [if_neg Bool.false_ne_true]
                obtain ⟨zu, fu, hu⟩ := ZR.unguard frD zr5
                exact ⟨ι5, _, acc, accV, k3.trans k5, zu.wiped hw3 hl3, fr_wipe fu hw3, hu, rl2.kp ((Kp.same sm).trans k5), al2, e2⟩
              | true =>
                dsimp only
                rw [if_pos rfl]
                simp only [if_true] at e2
                cases ef : fi1 z4 with
                | none => rw [ef] at e2; cases e2
                | some yf =>
                  rw [ef, Option.bind_some] at e2
                  obtain ⟨its1, z5⟩ := yf
                  cases ew : compL ct1 t1 f vs1 its1 (wipeR z5.1 vs1, z5.2) acc with
                  | none => rw [ew] at e2; cases e2
                  | some w =>
                    rw [ew, Option.bind_some] at e2
                    refine ⟨⟨B.ι, B.H, upd B.P D (.lst accV)⟩, ι5, z4, its1, z5, zr5, ef, fun J1 G1 ι6 H6 k6 zr6 wl1 g6 gk1 => ?_⟩
                    obtain ⟨zu6, fu6, hu6⟩ := ZR.unguard frD zr6
                    have k06 : Kp ι1 H1 ι6 H6 := (k3.trans k5).trans k6
                    have rl6 : RepL W ι6 H6 acc accV := rl2.kp (((Kp.same sm).trans k5).trans k6)
                    refine ⟨fun j mm H7 => mm = its1.length - j ∧ j ≤ its1.length ∧ ∃ ι7 z7 acc7 accV7, Kp ι6 H6 ι7 H7 ∧ ZR W B ι7 H7 (wipe σ2 vs1) z7 ∧ Fr B ι7 (wipe σ2 vs1) z7 D ∧ H7 D = some (.lst accV7) ∧ RepL W ι7 H7 acc7 accV7 ∧ acc7.length ≤ sizeLine ∧ compL ct1 t1 f vs1 (its1.drop j) z7 acc7 = some w,
                      ⟨its1.length, by simp, Nat.zero_le _, ι6, _, acc, accV, Kp.same fun _ _ h => h, zu6.wiped rfl rfl, fr_wipe fu6 rfl, hu6, rl6, al2, by simpa using ew⟩, ?_⟩
                    rintro j mm H7 ⟨rfl, hjle, ι7, z7, acc7, accV7, k7, zr7, fr7, hD7, rl7, al7, e7⟩
                    have g7 := gk1 ι7 H7 k7
                    by_cases hlt1 : j < its1.length
                    · have hd1 : its1.drop j = its1[j] :: its1.drop (j + 1) := List.drop_eq_getElem_cons hlt1
                      rw [hd1] at e7
                      unfold compL at e7
                      cases eg1 : ctD ct1 its1[j] z7 with
                      | none => rw [eg1] at e7; cases e7
                      | some z8 =>
                        rw [eg1, Option.bind_some] at e7
                        cases et1 : t1 z8 with
                        | none => rw [et1] at e7; cases e7
                        | some xt1 =>
                          rw [et1, Option.bind_some] at e7
                          obtain ⟨bt1, z9⟩ := xt1
                          refine .inr ⟨wl1.goes j H7 hlt1 g7, fun H8 => ∃ ι8 z8 acc8 accV8, Kp ι6 H6 ι8 H8 ∧ ZR W B ι8 H8 (wipe σ2 vs1) z8 ∧ Fr B ι8 (wipe σ2 vs1) z8 D ∧ H8 D = some (.lst accV8) ∧ RepL W ι8 H8 acc8 accV8 ∧ acc8.length ≤ sizeLine ∧ compL ct1 t1 f vs1 (its1.drop (j + 1)) z8 acc8 = some w, ?_, ?_⟩
                          · rintro H8 ⟨ι8, z8, acc8, accV8, h8⟩
                            exact ⟨its1.length - (j + 1), by omega, rfl, hlt1, ι8, z8, acc8, accV8, h8⟩
                          · intro x1 H8 hy1
                            obtain ⟨sm1, yl1⟩ := wl1.yields j H7 x1 H8 hlt1 g7 hy1
                            obtain ⟨pl1, rp1⟩ := yl1 its1[j] ι7 (List.getElem?_eq_getElem hlt1) k7
                            have zr8 : ZR W ⟨B.ι, B.H, upd B.P D (.lst accV7)⟩ ι7 H8 (wipe σ2 vs1) z7 := (zr7.guard fr7 hD7).same sm1
                            have k8 : Kp ι6 H6 ι7 H8 := k7.trans (Kp.same sm1)
                            refine ctg_run hK zr8 pl1 rp1 eg1 hct1 fun σ3 hw1 hl4 zr9 => ⟨by rw [hw1, wipe_wipe], ⟨⟨B.ι, B.H, upd B.P D (.lst accV7)⟩, ι7, z8, bt1, z9, zr9, et1, fun ι9 H9 k9 zr10 => ?_⟩⟩
                            have hl5 : σ3.length = σ2.length := by rw [hl4, wipe_length]
                            have hw5 : wipe σ3 vs1 = wipe σ2 vs1 := by rw [hw1, wipe_wipe]
                            cases bt1 with
                            | false =>
                              dsimp only
                              rw [if_neg Bool.false_ne_true]
                              obtain ⟨zu, fu, hu⟩ := ZR.unguard frD zr10
                              exact ⟨ι9, _, acc7, accV7, k8.trans k9, zu.wiped hw5 hl5, fr_wipe fu hw5, hu, rl7.kp ((Kp.same sm1).trans k9), al7, e7⟩
                            | true =>
                              dsimp only
                              rw [if_pos rfl]
                              simp only [if_true] at e7
                              cases ef1 : f z9 with
                              | none => rw [ef1] at e7; cases e7
                              | some yf1 =>
                                rw [ef1, Option.bind_some] at e7
                                split at e7
                                · rename_i hcond
                                  rw [Bool.and_eq_true] at hcond
                                  have hlen : acc7.length < 16777216 := by
                                    have := Nat.le_of_ble_eq_true hcond.2
                                    omega
                                  refine ⟨⟨B.ι, B.H, upd B.P D (.lst accV7)⟩, ι9, z9, yf1.1, yf1.2, zr10, ef1, fun vy ι10 H10 k10 r10 zr11 => ?_⟩
                                  obtain ⟨zu, fu, hu⟩ := ZR.unguard frD zr11
                                  have rl10 : RepL W ι10 H10 acc7 accV7 := rl7.kp (((Kp.same sm1).trans k9).trans k10)
                                  have k11 : Kp ι10 H10 ι10 (upd H10 D (.lst (accV7 ++ [vy]))) := Kp.at_ hu rfl (fun _ _ _ q => by cases q)
                                  exact ⟨accV7, hu, by rw [← rl10.length, sizeLine_eq]; exact hlen, ι10, _, acc7 ++ [yf1.1], accV7 ++ [vy], ((k8.trans k9).trans k10).trans k11, (zu.at_fr fu (nte_lst hu) k11).wiped hw5 hl5, fr_wipe fu hw5, upd_same, (rl10.append (.cons hcond.1 (r10.rep hcond.1) .nil)).kp k11, by rw [List.length_append, sizeLine_eq]; simp; omega, e7⟩
                                · cases e7
                    · have e : j = its1.length := by omega
                      subst e
                      rw [List.drop_length] at e7
                      cases e7
                      refine .inl ⟨wl1.stops H7 g7, ?_⟩
                      have hw9 : wipe (wipe σ2 vs1) vs = wipe σ vs := by rw [wipe_sub σ2 hv, hw3]
                      exact ⟨ι7, _, acc7, accV7, k06.trans k7, zr7.wiped hw9 (by rw [wipe_length, hl3]), fr_wipe fr7 hw9, hD7, rl7, al7, e2⟩
      · have e : i = its.length := by omega
        subst e
        rw [List.drop_length] at e2
        cases e2
        refine .inl ⟨wl.stops H2 g2, ?_⟩
        have zb := zr1.back k2 zr2
        refine k D accV ι2 H2 (k1.trans k2) zb rl2 al2 (k1.th D hD) hD2 ⟨frD, fr2.i, fun j dv hj ho hs => ?_⟩
        rcases backR_get hj with ⟨n, g⟩ | ⟨_, d, rfl, _⟩
        · exact fr2.o j dv g ho (by rw [wipe_get, if_neg n]; exact hs)
        · cases ho
theorem pe_comp2D {elt iter tg1 iter1 : Expr} {ifs ifs1 : List Expr} {scope : Scope} {own : List (Str × Nat)} {fi fi1 : EvA} {ct ct1 : CT} {t t1 : EvT} {f : Ev} (hK : X.K = W.K) (hc : X.calm = true) (hN : X.N.Nodup) (hi : PI X tg iter (tiv W B fi)) (ok : BlkOk X.N X.env.scope scope own)
    (hg : ∀ (s : Shared) (H : Hp) (C : Addr) (cl : List (Str × Addr)) (fp : List Addr), PG (X.blk s H scope (compEnvC scope cl C X.env) fp) tg (ctg X.K ct)) (hct : ∀ i ∈ ct.slots, i ∈ own.map (·.2))
    (ht : ∀ (s : Shared) (H : Hp) (C : Addr) (cl : List (Str × Addr)) (fp : List Addr) (B : Bs), PTs (X.blk s H scope (compEnvC scope cl C X.env) fp) ifs (ttv W B t))
    (hi1 : ∀ (s : Shared) (H : Hp) (C : Addr) (cl : List (Str × Addr)) (fp : List Addr) (B : Bs), PI (X.blk s H scope (compEnvC scope cl C X.env) fp) tg1 iter1 (tiv W B fi1))
    (hg1 : ∀ (s : Shared) (H : Hp) (C : Addr) (cl : List (Str × Addr)) (fp : List Addr), PG (X.blk s H scope (compEnvC scope cl C X.env) fp) tg1 (ctg X.K ct1)) (hct1 : ∀ i ∈ ct1.slots, i ∈ own.map (·.2))
    (ht1 : ∀ (s : Shared) (H : Hp) (C : Addr) (cl : List (Str × Addr)) (fp : List Addr) (B : Bs), PTs (X.blk s H scope (compEnvC scope cl C X.env) fp) ifs1 (ttv W B t1))
    (he : ∀ (s : Shared) (H : Hp) (C : Addr) (cl : List (Str × Addr)) (fp : List Addr) (B : Bs), PE (X.blk s H scope (compEnvC scope cl C X.env) fp) elt (tev W B f)) (hs : ∀ x, foldedSetIterable iter X.env x = pure x) (hs1 : ∀ env x, foldedSetIterable iter1 env x = pure x) :
    PE X (.ListComp elt [⟨tg, iter, ifs, 0⟩, ⟨tg1, iter1, ifs1, 0⟩] scope pos) (tfr W B (fComp2 fi ct t fi1 ct1 t1 f (own.map (·.2)) ct1.slots)) := by
  exact pe_mono (pe_lc2 hc hN hi ok hct1 hg (fun s H C cl fp => pts_anyB (ht s H C cl fp)) (fun s H C cl fp => pi_anyB (hi1 s H C cl fp)) hg1 (fun s H C cl fp => pts_anyB (ht1 s H C cl fp)) (fun s H C cl fp => pe_anyB (he s H C cl fp)) hs hs1) (tlc2_of hK hct (fun _ h => h) hct1)
theorem pgs_names : ∀ {es : List Expr} {is : List Nat}, X.N.Nodup → (Paired (fun (e : Expr) (i : Nat) => ∃ x p, e = .Name x p ∧ X.N[i]? = some x ∧ Loc X.env.scope x ∧ (X.fn x = true ∨ X.env.scope.names.lookup x = some .local)) es is) → PGs X es (gNames is)
  | [], [], _, .nil => pgs_mono pgs_nil fun v σ H Q q => by
      have e : v = [] := List.length_eq_zero_iff.mp q.1
      subst e
      exact ⟨rfl, q.2⟩
  | e :: es, i :: is, hN, .cons h t => by
    obtain ⟨x, p, rfl, h1, h2, h3⟩ := h
    refine pgs_mono (pgs_cons (pg_name hN h1 h2 h3) (pgs_names hN t)) fun v σ H Q q => ?_
    obtain ⟨hl, q⟩ := q
    cases v with
    | nil => cases hl
    | cons v vs => exact ⟨v, vs, rfl, by simpa using hl, q⟩
end
end DE
set_option Elab.async false
set_option linter.all false
set_option maxRecDepth 100000
set_option maxHeartbeats 4000000
namespace DE
open PySem PySem.Spec L2
mutual
/-- expressions; functions of the model's data stand in the tree itself -/
inductive E where
  | var (i : Nat)
  | cst (d : D)
  | glo (x : Str) (d : D)
  | bin (o : Operator) (f : D → D → Option D) (a b : E)
  | cmp (o : CmpOp) (f : D → D → Option D) (a b : E)
  | chn (o o' : CmpOp) (f f' : D → D → Option D) (a b c : E)
  | cmx (o : CmpOp) (sem : Ev → Ev → Ev) (a b : E)
  | un (o : UnaryOp) (f : D → Option D) (a : E)
  | boo (c : Bool) (es : Es)
  | not (a : E)
  | ife (t a b : E)
  | tup (es : Es)
  | esc (a : E)
  | call (x : Str) (n : Nat) (g : Fn) (es : Es)
  | bc (x : Str) (f : List D → Option D) (es : Es)
  | bt (x : Str) (f : List D → Option D) (es : Es)
  | mth (T : String) (m : Str) (f : D → List D → Option D) (a : E) (es : Es)
  | own (i : Nat) (m : Str) (f : List D → List D → Option (D × List D)) (es : Es)
  | app (i : Nat) (es : Es)
  | idx (f : D → D → Option D) (a b : E)
  | slc (f : D → Option Int → Option Int → Option D) (a : E) (lo hi : Oe)
  | fr (f : FE)
  | cel (f : FE)
  | ext (sh : Scope → Expr → Option (List Expr)) (sem : List Ev → Ev) (es : Es)
  | xx (sh : List Str → Scope → Expr → Bool) (sem : Ev)
inductive Es where
  | nil
  | cons (e : E) (es : Es)
  | star (e : E) (es : Es)
inductive Oe where
  | no
  | yes (e : E)
/-- fresh lists -/
inductive FE where
  | dsp (es : Es)
  | comp (it : IE) (ct : CT) (t : Oe) (e : E) (own : List (Str × Nat))
  | comp2 (it : IE) (ct : CT) (t : Oe) (it1 : IE) (ct1 : CT) (t1 : Oe) (e : E) (own : List (Str × Nat))
  | bl (x : Str) (f : List D → Option (List D)) (es : Es)
  | blt (x : Str) (f : List D → Option (List D)) (es : Es)
  | ext (sh : Scope → Expr → Option (List Expr)) (sem : List Ev → EvA) (es : Es)
/-- what is walked -/
inductive IE where
  | ex (e : E)
  | rg1 (e : E)
  | rg2 (a b : E)
  | zip (a b : E)
  | ext (sh : Scope → Expr → Expr → Option (List Expr)) (sem : List Ev → EvA) (es : Es)
end
mutual
def evE : E → Ev
  | .var i => fVar i
  | .cst d => fC d
  | .glo _ d => fC d
  | .bin _ f a b => fBin f (evE a) (evE b)
  | .cmp _ f a b => fBin f (evE a) (evE b)
  | .chn _ _ f f' a b c => fChn f f' (evE a) (evE b) (evE c)
  | .cmx _ sem a b => sem (evE a) (evE b)
  | .un _ f a => fUn f (evE a)
  | .boo c es => evB c es
  | .not a => fNot (evE a)
  | .ife t a b => fIf (evT t) (evE a) (evE b)
  | .tup es => fTup (evEs es)
  | .esc a => fEsc (evE a)
  | .call _ n g es => fCall n g (evEs es)
  | .bc _ f es => fBc f (evEs es)
  | .bt _ f es => fBc f (evEs es)
  | .mth T _ f a es => fMt T f (evE a) (evEs es)
  | .own i _ f es => fOwn i f (evEs es)
  | .app i es => fApp i (evEs es)
  | .idx f a b => fBin f (evE a) (evE b)
  | .slc f a lo hi => fSl f (evE a) (evO lo) (evO hi)
  | .fr f => fLst (evF f)
  | .cel f => fCel (evF f)
  | .ext _ sem es => sem (evL es)
  | .xx _ sem => sem
def evT : E → EvT
  | .boo c es => evBT c es
  | .not a => gNot (evT a)
  | .ife _ _ _ => fun _ => none
  | .var i => asT (fVar i)
  | .cst d => asT (fC d)
  | .glo _ d => asT (fC d)
  | .bin _ f a b => asT (fBin f (evE a) (evE b))
  | .cmp _ f a b => asT (fBin f (evE a) (evE b))
  | .chn _ _ f f' a b c => asT (fChn f f' (evE a) (evE b) (evE c))
  | .cmx _ sem a b => asT (sem (evE a) (evE b))
  | .un _ f a => asT (fUn f (evE a))
  | .call _ n g es => asT (fCall n g (evEs es))
  | .bc _ f es => asT (fBc f (evEs es))
  | .bt _ f es => asT (fBc f (evEs es))
  | .mth T _ f a es => asT (fMt T f (evE a) (evEs es))
  | .idx f a b => asT (fBin f (evE a) (evE b))
  | .ext _ sem es => asT (sem (evL es))
  | .xx _ sem => asT sem
  | _ => fun _ => none
/-- one by one -/
def evL : Es → List Ev
  | .nil => []
  | .cons e es => evE e :: evL es
  | .star _ _ => []
def evEs : Es → EvA
  | .nil => fNil
  | .cons e es => fCons (evE e) (evEs es)
  | .star e es => fStar (evE e) (evEs es)
def evO : Oe → EvO
  | .no => fNo
  | .yes e => fPart (evE e)
/-- and (true), or (false), as a value -/
def evB : Bool → Es → Ev
  | _, .nil => fun _ => none
  | _, .star _ _ => fun _ => none
  | _, .cons e .nil => evE e
  | true, .cons e (.cons e2 es) => fAnd (evE e) (evB true (.cons e2 es))
  | false, .cons e (.cons e2 es) => fOr (evE e) (evB false (.cons e2 es))
  | _, .cons _ (.star _ _) => fun _ => none
def evBT : Bool → Es → EvT
  | _, .nil => fun _ => none
  | _, .star _ _ => fun _ => none
  | _, .cons e .nil => evT e
  | true, .cons e (.cons e2 es) => gAnd (evT e) (evBT true (.cons e2 es))
  | false, .cons e (.cons e2 es) => gOr (evT e) (evBT false (.cons e2 es))
  | _, .cons _ (.star _ _) => fun _ => none
def evF : FE → EvA
  | .dsp es => fDsp (evEs es)
  | .comp it ct t e own => fComp (evI it) ct (evOT t) (evE e) (own.map (·.2))
  | .comp2 it ct t it1 ct1 t1 e own => fComp2 (evI it) ct (evOT t) (evI it1) ct1 (evOT t1) (evE e) (own.map (·.2)) ct1.slots
  | .bl _ f es => fBl f (evEs es)
  | .blt _ f es => fBl f (evEs es)
  | .ext _ sem es => sem (evL es)
def evOT : Oe → EvT
  | .no => fun z => some (true, z)
  | .yes e => evT e
def evI : IE → EvA
  | .ex e => fIt (evE e)
  | .rg1 e => fRng1 (fCons (evE e) fNil)
  | .rg2 a b => fRng2 (fCons (evE a) (fCons (evE b) fNil))
  | .zip a b => fZip (fCons (evE a) (fCons (evE b) fNil))
  | .ext _ sem es => sem (evL es)
end
end DE
set_option Elab.async false
set_option linter.all false
set_option maxRecDepth 100000
set_option maxHeartbeats 8000000
namespace DE
open PySem PySem.Spec L2
def notStar : Expr → Bool
  | .Starred _ _ => false
  | _ => true
theorem star_ok {e : Expr} {es : List Expr} {env : Env} (h : notStar e = true) : starEach (e :: es) env = (false, eval e env) :: starEach es env := by
  cases e <;> first | rfl | cases h
theorem any_ok {env : Env} {pos : Pos} : ∀ {es : List Expr}, es.all notStar = true → (backTo pos (starEach es env)).any (·.1) = false
  | [], _ => rfl
  | e :: es, h => by
    rw [List.all_cons, Bool.and_eq_true] at h
    rw [star_ok h.1]
    show (false || (backTo pos (starEach es env)).any (·.1)) = false
    rw [any_ok h.2]; rfl
theorem all_ok {env : Env} {pos : Pos} : ∀ {es : List Expr}, es.all notStar = true → (backTo pos (starEach es env)).all (fun x => !x.1) = true
  | [], _ => rfl
  | e :: es, h => by
    rw [List.all_cons, Bool.and_eq_true] at h
    rw [star_ok h.1]
    show (true && (backTo pos (starEach es env)).all (fun x => !x.1)) = true
    rw [all_ok h.2]; rfl
def few (es : List Expr) : Bool := es.all notStar && decide (es.length < 30)
theorem few_ok {env : Env} {pos : Pos} {es : List Expr} (h : few es = true) : ((backTo pos (starEach es env)).all (fun x => !x.1) && (backToKw pos (keywordEach [] env)).all (fun x => x.1.isSome)
      && decide (es.length + ([] : List Keyword).length + (if ([] : List Keyword).isEmpty then 0 else 1) < 30)) = true := by
  unfold few at h
  rw [Bool.and_eq_true, decide_eq_true_eq] at h
  rw [all_ok h.1]
  show (true && true && decide (es.length + 0 + 0 < 30)) = true
  simpa using h.2
def noSup : Expr → Bool
  | .Call (.Name _ _) [] [] _ => false
  | _ => true
theorem base_ok {o : Expr} {m : Str} {env : Env} {wh : Sem Value} (h : noSup o = true) : attributeBase o m env wh = wh := by
  unfold attributeBase
  split
  · cases h
  · rfl
def notSet : Expr → Bool
  | .Set _ _ _ => false
  | _ => true
theorem fold_ok {e : Expr} {env : Env} (h : notSet e = true) (x : Value) : foldedSetIterable e env x = pure x := by
  cases e <;> first | rfl | cases h
theorem mark_ok {op : CmpOp} {e : Expr} (h : notSet e = true) : behindInMarks op e = false := by
  cases e <;> first | rfl | cases h
def notComp : Expr → Bool
  | .ListComp _ _ _ _ => false
  | .SetComp _ _ _ _ => false
  | .DictComp _ _ _ _ _ => false
  | _ => true
theorem swap_ok {e : Expr} {t : Option Expr} {l : Nat} {env : Env} (h : notComp e = true) : swapsWith e t l env = pure false := by
  cases e <;> first | rfl | cases h
def notSlice : Expr → Bool
  | .Slice _ _ _ _ => false
  | _ => true
theorem ix_ok {e : Expr} (h : notSlice e = true) : PlainIx e := by
  intro o i
  cases e <;> first | rfl | cases h
/-- its test is its value's truth -/
def plainT : Expr → Bool
  | .UnaryOp .Not _ _ => false
  | .BoolOp _ _ _ => false
  | .IfExp _ _ _ _ => false
  | .Compare _ _ _ _ => false
  | _ => true
theorem true_ok {e : Expr} {env : Env} (h : plainT e = true) (wh : Sem Value) : isTrue e env wh = (do let v ← wh; standAt e.pos; holding [v] (truthy v)) := by
  cases e with
  | UnaryOp o a p => cases o <;> first | rfl | cases h
  | BoolOp _ _ _ => cases h
  | IfExp _ _ _ _ => cases h
  | Compare _ _ _ _ => cases h
  | _ => rfl
def vis (sc : Scope) (x : Str) : Bool := match sc.names.lookup x with
  | some .local => true
  | some .cell => true
  | some .free => true
  | _ => false
theorem vis_ok {sc : Scope} {x : Str} (h : vis sc x = true) : Vis sc x := by
  unfold vis at h
  unfold Vis
  split at h
  · exact .inl (by assumption)
  · exact .inr (.inl (by assumption))
  · exact .inr (.inr (by assumption))
  · cases h
def glb (sc : Scope) (x : Str) : Bool := match sc.names.lookup x with
  | some .globalImplicit => true
  | _ => false
theorem glb_ok {sc : Scope} {x : Str} (h : glb sc x = true) : sc.names.lookup x = some .globalImplicit := by
  unfold glb at h
  split at h
  · assumption
  · cases h
def nodbg (x : Str) : Bool := !(x == ("__debug__" : Str)) && !(x == ("__classdict__" : Str))
theorem nodbg_ok {x : Str} (h : nodbg x = true) : (x == ("__debug__" : Str)) = false ∧ (x == ("__classdict__" : Str)) = false := by
  unfold nodbg at h
  simpa using h
def cstOk : D → Const → Bool
  | .non, .none => true
  | .bl b, .bool c => b == c
  | .int i, .int j => decide (i = j)
  | .str s, .str x => decide (x = SX.S s) && Nat.ble s.length 16777216
  | _, _ => false
/-- a slot's name in a block: stored there -/
def locB (sc scope : Scope) (x : Str) : Bool := match sc.names.lookup x with
  | some .local => true
  | some .cell => scope.names.lookup x == some .cell
  | _ => false
def ctNames (N : List Str) (sc scope : Scope) : List Nat → List Expr → Bool
  | [], [] => true
  | i :: is, e :: es => (match e with
    | .Name x _ => decide (N[i]? = some x) && locB sc scope x
    | _ => false) && ctNames N sc scope is es
  | _, _ => false
/-- the target of a comprehension or a for; scope: the scope whose cells are made here -/
def chkCT (N : List Str) (sc scope : Scope) : CT → Expr → Bool
  | .nm i, .Name x _ => decide (N[i]? = some x) && locB sc scope x
  | .tp is, .Tuple es _ _ => ctNames N sc scope is es
  | _, _ => false
mutual
def chkE (N : List Str) (sc : Scope) : E → Expr → Bool
  | .var i, e => (match e with
    | .Name x _ => decide (N[i]? = some x) && vis sc x && nodbg x
    | _ => false)
  | .cst d, e => (match e with
    | .Constant c _ _ => cstOk d c
    | _ => false)
  | .glo x _, e => (match e with
    | .Name y _ => decide (y = x) && glb sc y && nodbg y
    | _ => false)
  | .bin o _ a b, e => (match e with
    | .BinOp l o' r _ => decide (o' = o) && chkE N sc a l && chkE N sc b r
    | _ => false)
  | .cmp o _ a b, e => (match e with
    | .Compare l [o'] [r] _ => decide (o' = o) && notSet r && chkE N sc a l && chkE N sc b r
    | _ => false)
  | .cmx o _ a b, e => (match e with
    | .Compare l [o'] [r] _ => decide (o' = o) && notSet r && chkE N sc a l && chkE N sc b r
    | _ => false)
  | .chn o o2 _ _ a b c, e => (match e with
    | .Compare l [o', o2'] [m, r] _ => decide (o' = o) && decide (o2' = o2) && notSet r && chkE N sc a l && chkE N sc b m && chkE N sc c r
    | _ => false)
  | .un o _ a, e => (match e with
    | .UnaryOp o' l _ => decide (o' = o) && decide (o ≠ .Not) && chkE N sc a l
    | _ => false)
  | .boo c es, e => (match e with
    | .BoolOp op vs _ => decide (op = if c then BoolOp.And else BoolOp.Or) && chkEs N sc es vs
    | _ => false)
  | .not a, e => (match e with
    | .UnaryOp .Not l _ => chkE N sc a l
    | _ => false)
  | .ife t a b, e => (match e with
    | .IfExp c l r _ => chkE N sc t c && chkE N sc a l && chkE N sc b r
    | _ => false)
  | .tup es, e => (match e with
    | .Tuple vs _ _ => chkEs N sc es vs
    | _ => false)
  | .esc a, e => chkE N sc a e
  | .call x _ _ es, e => (match e with
    | .Call (.Name y _) vs [] _ => decide (y = x) && glb sc y && nodbg y && vs.all notStar && chkEs N sc es vs
    | _ => false)
  | .bc x _ es, e => (match e with
    | .Call (.Name y _) (v :: vs) [] _ => decide (y = x) && glb sc y && nodbg y && (v :: vs).all notStar && chkEs N sc es (v :: vs)
    | _ => false)
  | .bt x _ es, e => (match e with
    | .Call (.Name y _) (v :: vs) [] _ => decide (y = x) && glb sc y && nodbg y && (v :: vs).all notStar && chkEs N sc es (v :: vs)
    | _ => false)
  | .mth _ m _ a es, e => (match e with
    | .Call (.Attribute o m' ap) vs [] cp => decide (m' = m) && noSup o && (ap.endLine == cp.line) && few vs && chkE N sc a o && chkEs N sc es vs
    | _ => false)
  | .own i m _ es, e => (match e with
    | .Call (.Attribute (.Name x _) m' ap) (v :: vs) [] cp => decide (m' = m) && decide (N[i]? = some x) && vis sc x && nodbg x && (ap.endLine == cp.line) && few (v :: vs) && chkEs N sc es (v :: vs)
    | _ => false)
  | .app i es, e => (match e with
    | .Call (.Attribute (.Name x _) m' ap) (v :: vs) [] cp => decide (m' = ("append" : Str)) && decide (N[i]? = some x) && vis sc x && nodbg x && (ap.endLine == cp.line) && few (v :: vs) && chkEs N sc es (v :: vs)
    | _ => false)
  | .idx _ a b, e => (match e with
    | .Subscript l r _ => notSlice r && chkE N sc a l && chkE N sc b r
    | _ => false)
  | .slc _ a lo hi, e => (match e with
    | .Subscript l (.Slice x y none _) _ => chkE N sc a l && chkO N sc lo x && chkO N sc hi y
    | _ => false)
  | .fr f, e => chkF N sc f e
  | .cel f, e => chkF N sc f e
  | .ext sh _ es, e => (match sh sc e with
    | some vs => plainT e && chkL N sc es vs
    | none => false)
  | .xx sh _, e => sh N sc e && plainT e
/-- one by one -/
def chkL (N : List Str) (sc : Scope) : Es → List Expr → Bool
  | .nil, vs => (match vs with
    | [] => true
    | _ => false)
  | .cons e es, vs => (match vs with
    | v :: r => chkE N sc e v && chkL N sc es r
    | _ => false)
  | .star _ _, _ => false
def chkEs (N : List Str) (sc : Scope) : Es → List Expr → Bool
  | .nil, vs => (match vs with
    | [] => true
    | _ => false)
  | .cons e es, vs => (match vs with
    | v :: r => notStar v && chkE N sc e v && chkEs N sc es r
    | _ => false)
  | .star e es, vs => (match vs with
    | .Starred v _ :: r => chkE N sc e v && chkEs N sc es r
    | _ => false)
def chkO (N : List Str) (sc : Scope) : Oe → Option Expr → Bool
  | .no, x => (match x with
    | none => true
    | _ => false)
  | .yes e, x => (match x with
    | some v => chkE N sc e v
    | _ => false)
def chkF (N : List Str) (sc : Scope) : FE → Expr → Bool
  | .dsp es, e => (match e with
    | .List vs _ => chkEs N sc es vs
    | _ => false)
  | .comp it ct t el own, e => (match e with
    | .ListComp elt [⟨tg, iter, ifs, 0⟩] scope _ => blkC N sc scope own && chkI N sc it iter tg && notSet iter && chkCT N (relS scope sc) scope ct tg && ct.slots.all (fun i => (own.map (·.2)).contains i) && chkT N (relS scope sc) t ifs && chkE N (relS scope sc) el elt
    | _ => false)
  | .comp2 it ct t it1 ct1 t1 el own, e => (match e with
    | .ListComp elt [⟨tg, iter, ifs, 0⟩, ⟨tg1, iter1, ifs1, 0⟩] scope _ => blkC N sc scope own && chkI N sc it iter tg && notSet iter && chkCT N (relS scope sc) scope ct tg && ct.slots.all (fun i => (own.map (·.2)).contains i) && chkT N (relS scope sc) t ifs && chkE N (relS scope sc) el elt && chkI N (relS scope sc) it1 iter1 tg1 && notSet iter1 && chkCT N (relS scope sc) scope ct1 tg1 && ct1.slots.all (fun i => (own.map (·.2)).contains i) && chkT N (relS scope sc) t1 ifs1
    | _ => false)
  | .bl x _ es, e => (match e with
    | .Call (.Name y _) (v :: vs) [] _ => decide (y = x) && glb sc y && nodbg y && (v :: vs).all notStar && chkEs N sc es (v :: vs)
    | _ => false)
  | .blt x _ es, e => (match e with
    | .Call (.Name y _) (v :: vs) [] _ => decide (y = x) && glb sc y && nodbg y && (v :: vs).all notStar && chkEs N sc es (v :: vs)
    | _ => false)
  | .ext sh _ es, e => (match sh sc e with
    | some vs => chkL N sc es vs
    | none => false)
def chkT (N : List Str) (sc : Scope) : Oe → List Expr → Bool
  | .no, x => (match x with
    | [] => true
    | _ => false)
  | .yes e, x => (match x with
    | [v] => chkE N sc e v
    | _ => false)
def chkI (N : List Str) (sc : Scope) : IE → Expr → Expr → Bool
  | .ex a, e, _ => chkE N sc a e
  | .rg1 a, e, _ => (match e with
    | .Call (.Name y _) [v] [] _ => decide (y = ("range" : Str)) && glb sc y && notStar v && chkE N sc a v
    | _ => false)
  | .rg2 a b, e, _ => (match e with
    | .Call (.Name y _) [v, w] [] _ => decide (y = ("range" : Str)) && glb sc y && notStar v && notStar w && chkE N sc a v && chkE N sc b w
    | _ => false)
  | .zip a b, e, tg => (match e, tg with
    | .Call (.Name y _) [v, w] [] _, .Tuple _ _ _ => decide (y = ("zip" : Str)) && glb sc y && notStar v && notStar w && chkE N sc a v && chkE N sc b w
    | _, _ => false)
  | .ext sh _ es, e, tg => (match sh sc e tg with
    | some vs => chkL N sc es vs
    | none => false)
end
end DE
set_option Elab.async false
set_option linter.all false
set_option maxRecDepth 100000
set_option maxHeartbeats 8000000
namespace DE
open PySem PySem.Spec L2
/-- the cells of a def's own frame, where they are told -/
class ClT where
  l : Option (List (Str × Addr))
instance noCl : ClT := ⟨none⟩
/-- the program, the world, the module's names, the base; the words -/
structure GX where
  P : Program
  w : World
  mg : Str → Option Value
  base : Heap
  W : Wd
  /-- the names of what is made within the def begin so -/
  qn : Str
  [cl : ClT]
/-- within a comprehension: not the frame itself -/
abbrev GX.blk (G : GX) : GX := @GX.mk G.P G.w G.mg G.base G.W G.qn noCl
/-- with the frame's cells told -/
abbrev GX.told (G : GX) (l : List (Str × Addr)) : GX := @GX.mk G.P G.w G.mg G.base G.W G.qn ⟨some l⟩
/-- what holds in an except suite, too -/
structure AdmH (W : Wd) (X : Cx) : Prop where
  k : X.K = W.K
  un : X.A.units + 65 < cLine
  gd : X.A.guards = some []
structure Adm (W : Wd) (X : Cx) : Prop extends AdmH W X where
  calm : X.calm = true
  room : Room 0 X.A
/-- the code object of a def that makes a lambda, and its table -/
def cdNms : List Str := ["<lambda>", "serves"]
def CdOk (G : GX) (cd : Value) : Prop := ∀ nm ∈ cdNms, ∀ P, (P, G.qn ++ nm) ∈ G.W.tb → ∃ c, cd = .ref c ∧ LamX.TabB G.base G.mg c P ∧ ∀ p ∈ G.W.tb, p.1 = P → p.2 = G.qn ++ nm
structure Fits (G : GX) (lv : Nat) (N : List Str) (sc : Scope) (X : Cx) : Prop where
  pr : X.prog = G.P
  hw : X.w = G.w
  k : X.K = G.W.K
  mg : X.mg = G.mg
  bs : X.base = G.base
  calm : X.calm = true
  room : Room lv X.A
  gd : X.A.guards = some []
  n : X.N = N
  nd : N.Nodup
  sc : X.env.scope = sc
  nox : X.xe = fun _ _ => False
  qn : X.env.qual = G.qn
  cd : CdOk G X.env.code
  cl : ∀ l, G.cl.l = some l → X.env.cells = l ∧ ∀ x, X.fn x = true
theorem Fits.adm {G : GX} {lv : Nat} {N : List Str} {sc : Scope} {X : Cx} (f : Fits G lv N sc X) : Adm G.W X := ⟨⟨f.k, (by have := f.room.un; omega), f.gd⟩, f.calm, f.room.mono (Nat.zero_le _)⟩
theorem Fits.blk {G : GX} {lv : Nat} {N : List Str} {sc scope : Scope} {X : Cx} (f : Fits G lv N sc X) (s : Shared) (H : Hp) (C : Addr) (cl : List (Str × Addr)) (fp : List Addr) : Fits G.blk lv N (relS scope sc) (X.blk s H scope (compEnvC scope cl C X.env) fp) :=
  ⟨f.pr, f.hw, f.k, f.mg, f.bs, f.calm, f.room, f.gd, f.n, f.nd, by rw [← f.sc]; rfl, rfl, f.qn, f.cd, fun _ e => by cases e⟩
def BinN (W : Wd) (o : Operator) (f : D → D → Option D) : Prop := ∀ X, AdmH W X → ∃ r, OpR X (binaryOp o) r ∧ OpM W r f
def CmpN (W : Wd) (o : CmpOp) (f : D → D → Option D) : Prop := ∀ X, AdmH W X → ∃ r, OpR X (compareOp o) r ∧ OpOk W r f
def UnN (W : Wd) (o : UnaryOp) (f : D → Option D) : Prop := ∀ X, AdmH W X → ∃ r, UnR X (unaryOp o) r ∧ UnOk W r f
def IxN (W : Wd) (f : D → D → Option D) : Prop := ∀ X, AdmH W X → ∃ r, IxR X r ∧ OpM W r f
def SlN (W : Wd) (f : D → Option Int → Option Int → Option D) : Prop := ∀ X, AdmH W X → ∃ r, SlR X r ∧ SlM W r f
def BcN (W : Wd) (x : Str) (f : List D → Option D) : Prop := x ≠ "__name__" ∧ ∃ id, bootBuiltins x = some (.builtin id) ∧ ∀ X, Adm W X → ∃ r, CallR X (.builtin id) r ∧ BcOk W r f
def BtN (W : Wd) (x : Str) (f : List D → Option D) : Prop := x ≠ "__name__" ∧ ∃ id, bootBuiltins x = some (.type id) ∧ ∀ X, Adm W X → ∃ r, CallR X (.type id) r ∧ BcOk W r f
def BlN (W : Wd) (x : Str) (f : List D → Option (List D)) : Prop := x ≠ "__name__" ∧ ∃ id, bootBuiltins x = some (.builtin id) ∧ ∀ X, Adm W X → ∃ r, CallR X (.builtin id) r ∧ BlOk W r f
def BltN (W : Wd) (x : Str) (f : List D → Option (List D)) : Prop := x ≠ "__name__" ∧ ∃ id, bootBuiltins x = some (.type id) ∧ ∀ X, Adm W X → ∃ r, CallR X (.type id) r ∧ BlOk W r f
def MtN (W : Wd) (T : String) (m : Str) (f : D → List D → Option D) : Prop := ∃ id, PlainAttrs T ∧ Slot T m id ∧ typeOf (.builtin id) = pure (.type "method_descriptor") ∧ ∀ X, AdmH W X → ∃ r, MtR X id r ∧ MtO W r f
def OwN (W : Wd) (m : Str) (f : List D → List D → Option (D × List D)) : Prop := ∃ id, Slot "list" m id ∧ typeOf (.builtin id) = pure (.type "method_descriptor") ∧ ∀ X, AdmH W X → ∃ r, MtR X id r ∧ MuO W r f
def GloN (G : GX) (x : Str) (d : D) : Prop := ∃ u v, G.mg x = some u ∧ RelV v u ∧ d.plain = true ∧ ∀ ι H, Rep G.W ι H d v
def CalN (G : GX) (lv : Nat) (x : Str) (n : Nat) (g : Fn) : Prop := ∃ k, k ≤ lv ∧ Cal G.P G.w G.W.K G.mg G.base G.W k x n g
/-- each text does what its tree means -/
abbrev PEL (X : Cx) (W : Wd) (B : Bs) : List Expr → List Ev → Prop := Paired fun e f => PE X e (tev W B f)
/-- a construct by its parts -/
def ExtN (G : GX) (lv : Nat) (sh : Scope → Expr → Option (List Expr)) (sem : List Ev → Ev) : Prop := ∀ (N : List Str) (sc : Scope) (X : Cx), Fits G lv N sc X → ∀ (e : Expr) (vs : List Expr), sh sc e = some vs → ∀ (fs : List Ev), (∀ B, PEL X G.W B vs fs) → ∀ B, PE X e (tev G.W B (sem fs))
/-- a construct whose names are looked at by itself -/
def ExtX (G : GX) (lv : Nat) (sh : List Str → Scope → Expr → Bool) (sem : Ev) : Prop := ∀ (N : List Str) (sc : Scope) (X : Cx), Fits G lv N sc X → ∀ (e : Expr), sh N sc e = true → ∀ B, PE X e (tev G.W B sem)
def ExtF (G : GX) (lv : Nat) (sh : Scope → Expr → Option (List Expr)) (sem : List Ev → EvA) : Prop := ∀ (N : List Str) (sc : Scope) (X : Cx), Fits G lv N sc X → ∀ (e : Expr) (vs : List Expr), sh sc e = some vs → ∀ (fs : List Ev), (∀ B, PEL X G.W B vs fs) → ∀ B, PE X e (tfr G.W B (sem fs))
def ExtI (G : GX) (lv : Nat) (sh : Scope → Expr → Expr → Option (List Expr)) (sem : List Ev → EvA) : Prop := ∀ (N : List Str) (sc : Scope) (X : Cx), Fits G lv N sc X → ∀ (e tg : Expr) (vs : List Expr), sh sc e tg = some vs → ∀ (fs : List Ev), (∀ B, PEL X G.W B vs fs) → ∀ B, PI X tg e (tiv G.W B (sem fs))
/-- a comparison by its parts -/
def CmxN (G : GX) (lv : Nat) (o : CmpOp) (sem : Ev → Ev → Ev) : Prop := ∀ (N : List Str) (sc : Scope) (X : Cx), Fits G lv N sc X → ∀ (a b : Expr) (fa fb : Ev), (∀ B, PE X a (tev G.W B fa)) → (∀ B, PE X b (tev G.W B fb)) → ∀ B, PC X o a b (tev G.W B (sem fa fb))
mutual
def needE (G : GX) (lv : Nat) : E → Prop
  | .var _ => True
  | .cst _ => True
  | .glo x d => GloN G x d
  | .bin o f a b => BinN G.W o f ∧ needE G lv a ∧ needE G lv b
  | .cmp o f a b => CmpN G.W o f ∧ needE G lv a ∧ needE G lv b
  | .cmx o sem a b => CmxN G lv o sem ∧ needE G lv a ∧ needE G lv b
  | .chn o o' f f' a b c => CmpN G.W o f ∧ CmpN G.W o' f' ∧ needE G lv a ∧ needE G lv b ∧ needE G lv c
  | .un o f a => UnN G.W o f ∧ needE G lv a
  | .boo _ es => needEs G lv es
  | .not a => needE G lv a
  | .ife t a b => needE G lv t ∧ needE G lv a ∧ needE G lv b
  | .tup es => needEs G lv es
  | .esc a => needE G lv a
  | .call x n g es => CalN G lv x n g ∧ needEs G lv es
  | .bc x f es => G.mg x = none ∧ BcN G.W x f ∧ needEs G lv es
  | .bt x f es => G.mg x = none ∧ BtN G.W x f ∧ needEs G lv es
  | .mth T m f a es => MtN G.W T m f ∧ needE G lv a ∧ needEs G lv es
  | .own _ m f es => OwN G.W m f ∧ needEs G lv es
  | .app _ es => needEs G lv es
  | .idx f a b => IxN G.W f ∧ needE G lv a ∧ needE G lv b
  | .slc f a lo hi => SlN G.W f ∧ needE G lv a ∧ needO G lv lo ∧ needO G lv hi
  | .fr f => needF G lv f
  | .cel f => needF G lv f
  | .ext sh sem es => ExtN G lv sh sem ∧ needEs G lv es
  | .xx sh sem => ExtX G lv sh sem
def needEs (G : GX) (lv : Nat) : Es → Prop
  | .nil => True
  | .cons e es => needE G lv e ∧ needEs G lv es
  | .star e es => needE G lv e ∧ needEs G lv es
def needO (G : GX) (lv : Nat) : Oe → Prop
  | .no => True
  | .yes e => needE G lv e
def needF (G : GX) (lv : Nat) : FE → Prop
  | .dsp es => needEs G lv es
  | .comp it _ t e _ => needI G lv it ∧ needO G.blk lv t ∧ needE G.blk lv e
  | .comp2 it _ t it1 _ t1 e _ => needI G lv it ∧ needO G.blk lv t ∧ needI G.blk lv it1 ∧ needO G.blk lv t1 ∧ needE G.blk lv e
  | .bl x f es => G.mg x = none ∧ BlN G.W x f ∧ needEs G lv es
  | .blt x f es => G.mg x = none ∧ BltN G.W x f ∧ needEs G lv es
  | .ext sh sem es => ExtF G lv sh sem ∧ needEs G lv es
def needI (G : GX) (lv : Nat) : IE → Prop
  | .ex e => needE G lv e
  | .rg1 e => G.mg "range" = none ∧ needE G lv e
  | .rg2 a b => G.mg "range" = none ∧ needE G lv a ∧ needE G lv b
  | .zip a b => G.mg "zip" = none ∧ needE G lv a ∧ needE G lv b
  | .ext sh sem es => ExtI G lv sh sem ∧ needEs G lv es
end
theorem pts_nilD {X : Cx} {W : Wd} {B : Bs} : PTs X [] (ttv W B fun z => some (true, z)) := ⟨fun pins s σ H Q I q => pts_nil.run pins s σ H Q I (by
  obtain ⟨ι, z, b, z', zr, e, k⟩ := q
  cases e
  exact k ι H .refl zr)⟩
theorem pts_oneD {X : Cx} {W : Wd} {B : Bs} {c : Expr} {t : EvT} (h : PT X c (ttv W B t)) : PTs X [c] (ttv W B t) := pts_one h
theorem locB_ok {sc scope : Scope} {x : Str} (h : locB sc scope x = true) : Loc sc x ∧ ((scope.names.lookup x == some .cell) = true ∨ sc.names.lookup x = some .local) := by
  unfold locB at h
  split at h
  · rename_i q; exact ⟨.inl q, .inr q⟩
  · rename_i q; exact ⟨.inr q, .inl h⟩
  · cases h
theorem ctNames_ok {N : List Str} {sc scope : Scope} : ∀ {is : List Nat} {es : List Expr}, ctNames N sc scope is es = true → Paired (fun (e : Expr) (i : Nat) => ∃ x p, e = .Name x p ∧ N[i]? = some x ∧ Loc sc x ∧ ((scope.names.lookup x == some .cell) = true ∨ sc.names.lookup x = some .local)) es is
  | [], [], _ => .nil
  | [], _ :: _, h => by cases h
  | _ :: _, [], h => by cases h
  | i :: is, e :: es, h => by
    unfold ctNames at h
    rw [Bool.and_eq_true] at h
    refine .cons ?_ (ctNames_ok h.2)
    have h1 := h.1
    split at h1
    · rename_i x p
      rw [Bool.and_eq_true, decide_eq_true_eq] at h1
      obtain ⟨l1, l2⟩ := locB_ok h1.2
      exact ⟨x, p, rfl, h1.1, l1, l2⟩
    · cases h1
theorem assign_len {env : Env} : ∀ {es : List Expr} {is : List Nat} {F : Expr → Nat → Prop}, Paired F es is → (∀ e i, F e i → ∃ x p, e = .Name x p) → (assignEach es env).length = is.length ∧ (assignEach es env).findIdx? (·.1) = none
  | _, _, _, .nil, _ => ⟨rfl, rfl⟩
  | e :: es, i :: is, F, .cons h t, hF => by
    obtain ⟨x, p, rfl⟩ := hF _ _ h
    obtain ⟨a, b⟩ := assign_len (env := env) t hF
    refine ⟨by show (assignEach es env).length + 1 = _; rw [a]; rfl, ?_⟩
    show (List.findIdx? (·.1) ((false, assign (.Name x p) env) :: assignEach es env)) = none
    rw [List.findIdx?_cons]
    simp [b]
/-- the target of a for or a comprehension, where fx tells whose cells are made here -/
theorem ct_ok {X : Cx} {N : List Str} {sc scope : Scope} {ct : CT} {tg : Expr} (hc : X.calm = true) (hn : X.N = N) (nd : N.Nodup) (hsc : X.env.scope = sc) (hfn : ∀ x, (scope.names.lookup x == some .cell) = true → X.fn x = true) (h : chkCT N sc scope ct tg = true) : PG X tg (ctg X.K ct) := by
  unfold chkCT at h
  split at h
  · rename_i i x p
    rw [Bool.and_eq_true, decide_eq_true_eq] at h
    obtain ⟨l1, l2⟩ := locB_ok h.2
    exact pg_name (by rw [hn]; exact nd) (by rw [hn]; exact h.1) (by rw [hsc]; exact l1) (l2.elim (fun q => .inl (hfn x q)) fun q => .inr (by rw [hsc]; exact q))
  · rename_i is es n p
    have q := ctNames_ok h
    have gs : PGs X es (gNames is) := pgs_names (by rw [hn]; exact nd) (Paired.mapP q fun e i ⟨x, p, e1, h1, l1, l2⟩ => ⟨x, p, e1, by rw [hn]; exact h1, by rw [hsc]; exact l1, l2.elim (fun q => .inl (hfn x q)) fun q => .inr (by rw [hsc]; exact q)⟩)
    obtain ⟨a, b⟩ := assign_len (env := X.env) q fun e i ⟨x, p, e1, _⟩ => ⟨x, p, e1⟩
    exact pg_or (pg_tup hc gs a b) (pg_unl hc gs a b)
  · cases h
mutual
theorem sE {G : GX} {lv : Nat} : ∀ (ir : E) {N : List Str} {sc : Scope} {e : Expr}, chkE N sc ir e = true → needE G lv ir → ∀ {X : Cx}, Fits G lv N sc X → ∀ B : Bs, PE X e (tev G.W B (evE ir))
  | .var i, N, sc, e, h, n, X, fx, B => by
    unfold chkE at h
    split at h
    · simp only [Bool.and_eq_true, decide_eq_true_eq] at h
      have d := nodbg_ok h.2
      exact pe_varD (by rw [fx.n]; exact h.1.1) (by rw [fx.sc]; exact vis_ok h.1.2) d.1 d.2
    · cases h
  | .cst d, N, sc, e, h, n, X, fx, B => by
    unfold chkE at h
    split at h
    · rename_i c k p
      unfold cstOk at h
      split at h
      · exact pe_nonD
      · rw [eq_of_beq h]; exact pe_boolD
      · rw [of_decide_eq_true h]; exact pe_intD
      · rw [Bool.and_eq_true, decide_eq_true_eq] at h
        exact pe_strD h.1 (by rw [sizeLine_eq]; exact Nat.le_of_ble_eq_true h.2)
      · cases h
    · cases h
  | .glo x d, N, sc, e, h, n, X, fx, B => by
    unfold chkE at h
    split at h
    · simp only [Bool.and_eq_true, decide_eq_true_eq] at h
      obtain ⟨⟨rfl, h2⟩, h3⟩ := h
      unfold needE at n
      obtain ⟨u, v, m, r, p, rp⟩ := n
      exact pe_globD (show X.env.scope.names.lookup _ = _ by rw [fx.sc]; exact glb_ok h2) (by rw [fx.mg]; exact m) r p rp (nodbg_ok h3).1
    · cases h
  | .bin o f a b, N, sc, e, h, n, X, fx, B => by
    unfold chkE at h
    split at h
    · simp only [Bool.and_eq_true, decide_eq_true_eq] at h
      obtain ⟨⟨rfl, h2⟩, h3⟩ := h
      unfold needE at n
      obtain ⟨r, ho, ok⟩ := n.1 X fx.adm.toAdmH
      exact pe_binM ho ok (sE a h2 n.2.1 fx B) (sE b h3 n.2.2 fx B)
    · cases h
  | .cmp o f a b, N, sc, e, h, n, X, fx, B => by
    unfold chkE at h
    split at h
    · simp only [Bool.and_eq_true, decide_eq_true_eq] at h
      obtain ⟨⟨⟨rfl, hm⟩, h2⟩, h3⟩ := h
      unfold needE at n
      obtain ⟨r, ho, ok⟩ := n.1 X fx.adm.toAdmH
      exact pe_cmpD ho ok (sE a h2 n.2.1 fx B) (sE b h3 n.2.2 fx B) (mark_ok hm)
    · cases h
  | .cmx o sem a b, N, sc, e, h, n, X, fx, B => by
    unfold chkE at h
    split at h
    · simp only [Bool.and_eq_true, decide_eq_true_eq] at h
      obtain ⟨⟨⟨rfl, hm⟩, h2⟩, h3⟩ := h
      unfold needE at n
      exact pe_cmp (n.1 N sc X fx _ _ _ _ (fun B => sE a h2 n.2.1 fx B) (fun B => sE b h3 n.2.2 fx B) B) (mark_ok hm)
    · cases h
  | .chn o o2 f f2 a b c, N, sc, e, h, n, X, fx, B => by
    unfold chkE at h
    split at h
    · simp only [Bool.and_eq_true, decide_eq_true_eq] at h
      obtain ⟨⟨⟨⟨⟨rfl, rfl⟩, hm⟩, h2⟩, h3⟩, h4⟩ := h
      unfold needE at n
      obtain ⟨r, ho, ok⟩ := n.1 X fx.adm.toAdmH
      obtain ⟨r', ho', ok'⟩ := n.2.1 X fx.adm.toAdmH
      exact pe_chnD ho ok ho' ok' (sE a h2 n.2.2.1 fx B) (sE b h3 n.2.2.2.1 fx B) (sE c h4 n.2.2.2.2 fx B) (mark_ok hm)
    · cases h
  | .un o f a, N, sc, e, h, n, X, fx, B => by
    unfold chkE at h
    split at h
    · simp only [Bool.and_eq_true, decide_eq_true_eq] at h
      obtain ⟨⟨rfl, _⟩, h2⟩ := h
      unfold needE at n
      obtain ⟨r, ho, ok⟩ := n.1 X fx.adm.toAdmH
      exact pe_unD ho ok (sE a h2 n.2 fx B)
    · cases h
  | .boo c es, N, sc, e, h, n, X, fx, B => by
    unfold chkE at h
    split at h
    · simp only [Bool.and_eq_true, decide_eq_true_eq] at h
      obtain ⟨rfl, h2⟩ := h
      unfold needE at n
      exact sB c es h2 n fx B
    · cases h
  | .not a, N, sc, e, h, n, X, fx, B => by
    unfold chkE at h
    split at h
    · unfold needE at n
      exact pe_notD (sE a h n fx B)
    · cases h
  | .ife t a b, N, sc, e, h, n, X, fx, B => by
    unfold chkE at h
    split at h
    · simp only [Bool.and_eq_true] at h
      unfold needE at n
      exact pe_ifD (sT t h.1.1 n.1 fx B) (sE a h.1.2 n.2.1 fx B) (sE b h.2 n.2.2 fx B)
    · cases h
  | .tup es, N, sc, e, h, n, X, fx, B => by
    unfold chkE at h
    split at h
    · unfold needE at n
      exact pe_tupD (sEs es h n fx B)
    · cases h
  | .esc a, N, sc, e, h, n, X, fx, B => by
    unfold chkE at h
    unfold needE at n
    exact pe_escD (sE a h n fx B)
  | .call x m g es, N, sc, e, h, n, X, fx, B => by
    unfold chkE at h
    split at h
    · rename_i y p vs pos
      simp only [Bool.and_eq_true, decide_eq_true_eq] at h
      obtain ⟨⟨⟨⟨rfl, h1⟩, h2⟩, h3⟩, h4⟩ := h
      unfold needE at n
      obtain ⟨⟨k, hk, cl⟩, ne⟩ := n
      have cl' : Cal X.prog X.w X.K X.mg X.base G.W k y m g := by rw [fx.pr, fx.hw, fx.k, fx.mg, fx.bs]; exact cl
      have hg : Gl X y := show X.env.scope.names.lookup _ = _ by rw [fx.sc]; exact glb_ok h1
      have ha := sEs es h4 ne fx B
      cases vs with
      | nil =>
        cases es with
        | nil => exact pe_call0D cl' fx.room fx.gd hk hg (nodbg_ok h2).1
        | cons _ _ => unfold chkEs at h4; cases h4
        | star _ _ => unfold chkEs at h4; cases h4
      | cons v vs =>
        rw [List.all_cons, Bool.and_eq_true] at h3
        exact pe_callD cl' fx.room fx.gd hk hg ha (nodbg_ok h2).1 (star_ok h3.1) (any_ok h3.2)
    · cases h
  | .bc x f es, N, sc, e, h, n, X, fx, B => by
    unfold chkE at h
    split at h
    · rename_i y p v vs pos
      simp only [Bool.and_eq_true, decide_eq_true_eq] at h
      obtain ⟨⟨⟨⟨rfl, h1⟩, h2⟩, h3⟩, h4⟩ := h
      unfold needE at n
      obtain ⟨m, ⟨nn, id, bb, hX⟩, ne⟩ := n
      obtain ⟨r, hc, ok⟩ := hX X fx.adm
      rw [List.all_cons, Bool.and_eq_true] at h3
      exact pe_bcD hc ok (show X.env.scope.names.lookup _ = _ by rw [fx.sc]; exact glb_ok h1) (by rw [fx.mg]; exact m) bb (sEs es h4 ne fx B) nn (nodbg_ok h2).1 (star_ok h3.1) (any_ok h3.2)
    · cases h
  | .bt x f es, N, sc, e, h, n, X, fx, B => by
    unfold chkE at h
    split at h
    · rename_i y p v vs pos
      simp only [Bool.and_eq_true, decide_eq_true_eq] at h
      obtain ⟨⟨⟨⟨rfl, h1⟩, h2⟩, h3⟩, h4⟩ := h
      unfold needE at n
      obtain ⟨m, ⟨nn, id, bb, hX⟩, ne⟩ := n
      obtain ⟨r, hc, ok⟩ := hX X fx.adm
      rw [List.all_cons, Bool.and_eq_true] at h3
      exact pe_btD hc ok (show X.env.scope.names.lookup _ = _ by rw [fx.sc]; exact glb_ok h1) (by rw [fx.mg]; exact m) bb (sEs es h4 ne fx B) nn (nodbg_ok h2).1 (star_ok h3.1) (any_ok h3.2)
    · cases h
  | .mth T m f a es, N, sc, e, h, n, X, fx, B => by
    unfold chkE at h
    split at h
    · rename_i o m' ap vs cp
      simp only [Bool.and_eq_true, decide_eq_true_eq] at h
      obtain ⟨⟨⟨⟨⟨rfl, h1⟩, h2⟩, h3⟩, h4⟩, h5⟩ := h
      unfold needE at n
      obtain ⟨⟨id, pa, sl, ty, hX⟩, na, ne⟩ := n
      obtain ⟨r, hm, ok⟩ := hX X fx.adm.toAdmH
      have ho := sE a h4 na fx B
      have ha := sEs es h5 ne fx B
      have h3' : vs.all notStar = true := by
        have := h3
        unfold few at this
        rw [Bool.and_eq_true] at this
        exact this.1
      cases vs with
      | nil =>
        cases es with
        | nil => exact pe_mt0D fx.k pa sl ty hm ok ho (base_ok h1) h2
        | cons _ _ => unfold chkEs at h5; cases h5
        | star _ _ => unfold chkEs at h5; cases h5
      | cons v vs =>
        have h6 := h3'
        rw [List.all_cons, Bool.and_eq_true] at h6
        exact pe_mtD fx.k pa sl ty hm ok ho ha (base_ok h1) (few_ok h3) h2 (star_ok h6.1) (any_ok h6.2)
    · cases h
  | .own i m f es, N, sc, e, h, n, X, fx, B => by
    unfold chkE at h
    split at h
    · rename_i x xp m' ap v vs cp
      simp only [Bool.and_eq_true, decide_eq_true_eq] at h
      obtain ⟨⟨⟨⟨⟨⟨rfl, h0⟩, h1⟩, h2⟩, h3⟩, h4⟩, h5⟩ := h
      unfold needE at n
      obtain ⟨⟨id, sl, ty, hX⟩, ne⟩ := n
      obtain ⟨r, hm, ok⟩ := hX X fx.adm.toAdmH
      have h6 : (v :: vs).all notStar = true := by
        have := h4
        unfold few at this
        rw [Bool.and_eq_true] at this
        exact this.1
      rw [List.all_cons, Bool.and_eq_true] at h6
      exact pe_ownD fx.k sl ty hm ok (by rw [fx.n]; exact h0) (by rw [fx.sc]; exact vis_ok h1) (nodbg_ok h2).1 (nodbg_ok h2).2 (sEs es h5 ne fx B) (base_ok rfl) (few_ok h4) h3 (star_ok h6.1) (any_ok h6.2)
    · cases h
  | .app i es, N, sc, e, h, n, X, fx, B => by
    unfold chkE at h
    split at h
    · rename_i x xp m' ap v vs cp
      simp only [Bool.and_eq_true, decide_eq_true_eq] at h
      obtain ⟨⟨⟨⟨⟨⟨rfl, h0⟩, h1⟩, h2⟩, h3⟩, h4⟩, h5⟩ := h
      unfold needE at n
      have h6 : (v :: vs).all notStar = true := by
        have := h4
        unfold few at this
        rw [Bool.and_eq_true] at this
        exact this.1
      rw [List.all_cons, Bool.and_eq_true] at h6
      exact pe_appD fx.k (by rw [fx.n]; exact h0) (by rw [fx.sc]; exact vis_ok h1) (nodbg_ok h2).1 (nodbg_ok h2).2 (sEs es h5 n fx B) (base_ok rfl) (few_ok h4) h3 (star_ok h6.1) (any_ok h6.2)
    · cases h
  | .idx f a b, N, sc, e, h, n, X, fx, B => by
    unfold chkE at h
    split at h
    · simp only [Bool.and_eq_true] at h
      unfold needE at n
      obtain ⟨r, hr, ok⟩ := n.1 X fx.adm.toAdmH
      exact pe_ixD hr ok (sE a h.1.2 n.2.1 fx B) (sE b h.2 n.2.2 fx B) (ix_ok h.1.1)
    · cases h
  | .slc f a lo hi, N, sc, e, h, n, X, fx, B => by
    unfold chkE at h
    split at h
    · simp only [Bool.and_eq_true] at h
      unfold needE at n
      obtain ⟨r, hr, ok⟩ := n.1 X fx.adm.toAdmH
      exact pe_slD hr ok (sE a h.1.1 n.2.1 fx B) (sO lo h.1.2 n.2.2.1 fx B) (sO hi h.2 n.2.2.2 fx B)
    · cases h
  | .fr f, N, sc, e, h, n, X, fx, B => by
    unfold chkE at h
    unfold needE at n
    exact pe_frzD (sF f h n fx B)
  | .cel f, N, sc, e, h, n, X, fx, B => by
    unfold chkE at h
    unfold needE at n
    exact pe_celD (sF f h n fx B)
  | .ext sh sem es, N, sc, e, h, n, X, fx, B => by
    unfold chkE at h
    split at h
    · rename_i vs hs
      rw [Bool.and_eq_true] at h
      unfold needE at n
      exact n.1 N sc X fx e vs hs _ (sL es h.2 n.2 fx) B
    · cases h
  | .xx sh sem, N, sc, e, h, n, X, fx, B => by
    unfold chkE at h
    rw [Bool.and_eq_true] at h
    unfold needE at n
    exact n N sc X fx e h.1 B
theorem sT {G : GX} {lv : Nat} : ∀ (ir : E) {N : List Str} {sc : Scope} {e : Expr}, chkE N sc ir e = true → needE G lv ir → ∀ {X : Cx}, Fits G lv N sc X → ∀ B : Bs, PT X e (ttv G.W B (evT ir))
  | .boo c es, N, sc, e, h, n, X, fx, B => by
    unfold chkE at h
    split at h
    · simp only [Bool.and_eq_true, decide_eq_true_eq] at h
      obtain ⟨rfl, h2⟩ := h
      unfold needE at n
      exact (sBT c es h2 n fx B).pt
    · cases h
  | .not a, N, sc, e, h, n, X, fx, B => by
    unfold chkE at h
    split at h
    · unfold needE at n
      exact pt_notD (sT a h n fx B)
    · cases h
  | .cmp o f a b, N, sc, e, h, n, X, fx, B => by
    unfold chkE at h
    split at h
    · simp only [Bool.and_eq_true, decide_eq_true_eq] at h
      obtain ⟨⟨⟨rfl, hm⟩, h2⟩, h3⟩ := h
      unfold needE at n
      obtain ⟨r, ho, ok⟩ := n.1 X fx.adm.toAdmH
      exact pt_cmpD ho ok (sE a h2 n.2.1 fx B) (sE b h3 n.2.2 fx B) (mark_ok hm)
    · cases h
  | .cmx o sem a b, N, sc, e, h, n, X, fx, B => by
    unfold chkE at h
    split at h
    · simp only [Bool.and_eq_true, decide_eq_true_eq] at h
      obtain ⟨⟨⟨rfl, hm⟩, h2⟩, h3⟩ := h
      unfold needE at n
      exact pt_mono (pt_cmp (n.1 N sc X fx _ _ _ _ (fun B => sE a h2 n.2.1 fx B) (fun B => sE b h3 n.2.2 fx B) B) (mark_ok hm)) fun σ H Q q => ttv_b σ H Q q
    · cases h
  | .chn o o2 f f2 a b c, N, sc, e, h, n, X, fx, B => by
    unfold chkE at h
    split at h
    · simp only [Bool.and_eq_true, decide_eq_true_eq] at h
      obtain ⟨⟨⟨⟨⟨rfl, rfl⟩, hm⟩, h2⟩, h3⟩, h4⟩ := h
      unfold needE at n
      obtain ⟨r, ho, ok⟩ := n.1 X fx.adm.toAdmH
      obtain ⟨r', ho', ok'⟩ := n.2.1 X fx.adm.toAdmH
      exact pt_chnD ho ok ho' ok' (sE a h2 n.2.2.1 fx B) (sE b h3 n.2.2.2.1 fx B) (sE c h4 n.2.2.2.2 fx B) (mark_ok hm)
    · cases h
  | .ife _ _ _, N, sc, e, h, n, X, fx, B => ⟨fun _ _ _ _ _ _ q => by obtain ⟨_, _, _, _, _, e1, _⟩ := q; cases e1⟩
  | .tup _, N, sc, e, h, n, X, fx, B => ⟨fun _ _ _ _ _ _ q => by obtain ⟨_, _, _, _, _, e1, _⟩ := q; cases e1⟩
  | .esc _, N, sc, e, h, n, X, fx, B => ⟨fun _ _ _ _ _ _ q => by obtain ⟨_, _, _, _, _, e1, _⟩ := q; cases e1⟩
  | .own _ _ _ _, N, sc, e, h, n, X, fx, B => ⟨fun _ _ _ _ _ _ q => by obtain ⟨_, _, _, _, _, e1, _⟩ := q; cases e1⟩
  | .app _ _, N, sc, e, h, n, X, fx, B => ⟨fun _ _ _ _ _ _ q => by obtain ⟨_, _, _, _, _, e1, _⟩ := q; cases e1⟩
  | .slc _ _ _ _, N, sc, e, h, n, X, fx, B => ⟨fun _ _ _ _ _ _ q => by obtain ⟨_, _, _, _, _, e1, _⟩ := q; cases e1⟩
  | .fr _, N, sc, e, h, n, X, fx, B => ⟨fun _ _ _ _ _ _ q => by obtain ⟨_, _, _, _, _, e1, _⟩ := q; cases e1⟩
  | .cel _, N, sc, e, h, n, X, fx, B => ⟨fun _ _ _ _ _ _ q => by obtain ⟨_, _, _, _, _, e1, _⟩ := q; cases e1⟩
  | .var i, N, sc, e, h, n, X, fx, B => by
    unfold chkE at h
    split at h
    · simp only [Bool.and_eq_true, decide_eq_true_eq] at h
      have d := nodbg_ok h.2
      exact pt_valD (pe_varD (by rw [fx.n]; exact h.1.1) (by rw [fx.sc]; exact vis_ok h.1.2) d.1 d.2) (true_ok rfl)
    · cases h
  | .cst d, N, sc, e, h, n, X, fx, B => by
    unfold chkE at h
    split at h
    · rename_i c k p
      unfold cstOk at h
      split at h
      · exact pt_valD pe_nonD (true_ok rfl)
      · rw [eq_of_beq h]; exact pt_valD pe_boolD (true_ok rfl)
      · rw [of_decide_eq_true h]; exact pt_valD pe_intD (true_ok rfl)
      · rw [Bool.and_eq_true, decide_eq_true_eq] at h
        exact pt_valD (pe_strD h.1 (by rw [sizeLine_eq]; exact Nat.le_of_ble_eq_true h.2)) (true_ok rfl)
      · cases h
    · cases h
  | .glo x d, N, sc, e, h, n, X, fx, B => by
    unfold chkE at h
    split at h
    · simp only [Bool.and_eq_true, decide_eq_true_eq] at h
      obtain ⟨⟨rfl, h2⟩, h3⟩ := h
      unfold needE at n
      obtain ⟨u, v, m, r, p, rp⟩ := n
      exact pt_valD (pe_globD (show X.env.scope.names.lookup _ = _ by rw [fx.sc]; exact glb_ok h2) (by rw [fx.mg]; exact m) r p rp (nodbg_ok h3).1) (true_ok rfl)
    · cases h
  | .bin o f a b, N, sc, e, h, n, X, fx, B => by
    unfold chkE at h
    split at h
    · simp only [Bool.and_eq_true, decide_eq_true_eq] at h
      obtain ⟨⟨rfl, h2⟩, h3⟩ := h
      unfold needE at n
      obtain ⟨r, ho, ok⟩ := n.1 X fx.adm.toAdmH
      exact pt_valD (pe_binM ho ok (sE a h2 n.2.1 fx B) (sE b h3 n.2.2 fx B)) (true_ok rfl)
    · cases h
  | .un o f a, N, sc, e, h, n, X, fx, B => by
    unfold chkE at h
    split at h
    · simp only [Bool.and_eq_true, decide_eq_true_eq] at h
      obtain ⟨⟨rfl, h1⟩, h2⟩ := h
      unfold needE at n
      obtain ⟨r, ho, ok⟩ := n.1 X fx.adm.toAdmH
      refine pt_valD (pe_unD ho ok (sE a h2 n.2 fx B)) (true_ok ?_)
      rename_i o2 _ _
      cases o2 <;> first | rfl | exact absurd rfl h1
    · cases h
  | .call x m g es, N, sc, e, h, n, X, fx, B => by
    unfold chkE at h
    split at h
    · rename_i y p vs pos
      simp only [Bool.and_eq_true, decide_eq_true_eq] at h
      obtain ⟨⟨⟨⟨rfl, h1⟩, h2⟩, h3⟩, h4⟩ := h
      unfold needE at n
      obtain ⟨⟨k, hk, cl⟩, ne⟩ := n
      have cl' : Cal X.prog X.w X.K X.mg X.base G.W k y m g := by rw [fx.pr, fx.hw, fx.k, fx.mg, fx.bs]; exact cl
      have hg : Gl X y := show X.env.scope.names.lookup _ = _ by rw [fx.sc]; exact glb_ok h1
      have ha := sEs es h4 ne fx B
      cases vs with
      | nil =>
        cases es with
        | nil => exact pt_valD (pe_call0D cl' fx.room fx.gd hk hg (nodbg_ok h2).1) (true_ok rfl)
        | cons _ _ => unfold chkEs at h4; cases h4
        | star _ _ => unfold chkEs at h4; cases h4
      | cons v vs =>
        rw [List.all_cons, Bool.and_eq_true] at h3
        exact pt_valD (pe_callD cl' fx.room fx.gd hk hg ha (nodbg_ok h2).1 (star_ok h3.1) (any_ok h3.2)) (true_ok rfl)
    · cases h
  | .bc x f es, N, sc, e, h, n, X, fx, B => by
    unfold chkE at h
    split at h
    · rename_i y p v vs pos
      simp only [Bool.and_eq_true, decide_eq_true_eq] at h
      obtain ⟨⟨⟨⟨rfl, h1⟩, h2⟩, h3⟩, h4⟩ := h
      unfold needE at n
      obtain ⟨m, ⟨nn, id, bb, hX⟩, ne⟩ := n
      obtain ⟨r, hc, ok⟩ := hX X fx.adm
      rw [List.all_cons, Bool.and_eq_true] at h3
      exact pt_valD (pe_bcD hc ok (show X.env.scope.names.lookup _ = _ by rw [fx.sc]; exact glb_ok h1) (by rw [fx.mg]; exact m) bb (sEs es h4 ne fx B) nn (nodbg_ok h2).1 (star_ok h3.1) (any_ok h3.2)) (true_ok rfl)
    · cases h
  | .bt x f es, N, sc, e, h, n, X, fx, B => by
    unfold chkE at h
    split at h
    · rename_i y p v vs pos
      simp only [Bool.and_eq_true, decide_eq_true_eq] at h
      obtain ⟨⟨⟨⟨rfl, h1⟩, h2⟩, h3⟩, h4⟩ := h
      unfold needE at n
      obtain ⟨m, ⟨nn, id, bb, hX⟩, ne⟩ := n
      obtain ⟨r, hc, ok⟩ := hX X fx.adm
      rw [List.all_cons, Bool.and_eq_true] at h3
      exact pt_valD (pe_btD hc ok (show X.env.scope.names.lookup _ = _ by rw [fx.sc]; exact glb_ok h1) (by rw [fx.mg]; exact m) bb (sEs es h4 ne fx B) nn (nodbg_ok h2).1 (star_ok h3.1) (any_ok h3.2)) (true_ok rfl)
    · cases h
  | .mth T m f a es, N, sc, e, h, n, X, fx, B => by
    unfold chkE at h
    split at h
    · rename_i o m' ap vs cp
      simp only [Bool.and_eq_true, decide_eq_true_eq] at h
      obtain ⟨⟨⟨⟨⟨rfl, h1⟩, h2⟩, h3⟩, h4⟩, h5⟩ := h
      unfold needE at n
      obtain ⟨⟨id, pa, sl, ty, hX⟩, na, ne⟩ := n
      obtain ⟨r, hm, ok⟩ := hX X fx.adm.toAdmH
      have ho := sE a h4 na fx B
      have ha := sEs es h5 ne fx B
      have h3' : vs.all notStar = true := by
        have := h3
        unfold few at this
        rw [Bool.and_eq_true] at this
        exact this.1
      cases vs with
      | nil =>
        cases es with
        | nil => exact pt_valD (pe_mt0D fx.k pa sl ty hm ok ho (base_ok h1) h2) (true_ok rfl)
        | cons _ _ => unfold chkEs at h5; cases h5
        | star _ _ => unfold chkEs at h5; cases h5
      | cons v vs =>
        have h6 := h3'
        rw [List.all_cons, Bool.and_eq_true] at h6
        exact pt_valD (pe_mtD fx.k pa sl ty hm ok ho ha (base_ok h1) (few_ok h3) h2 (star_ok h6.1) (any_ok h6.2)) (true_ok rfl)
    · cases h
  | .idx f a b, N, sc, e, h, n, X, fx, B => by
    unfold chkE at h
    split at h
    · simp only [Bool.and_eq_true] at h
      unfold needE at n
      obtain ⟨r, hr, ok⟩ := n.1 X fx.adm.toAdmH
      exact pt_valD (pe_ixD hr ok (sE a h.1.2 n.2.1 fx B) (sE b h.2 n.2.2 fx B) (ix_ok h.1.1)) (true_ok rfl)
    · cases h
  | .ext sh sem es, N, sc, e, h, n, X, fx, B => by
    unfold chkE at h
    split at h
    · rename_i vs hs
      rw [Bool.and_eq_true] at h
      unfold needE at n
      exact pt_valD (n.1 N sc X fx e vs hs _ (sL es h.2 n.2 fx) B) (true_ok h.1)
    · cases h
  | .xx sh sem, N, sc, e, h, n, X, fx, B => by
    unfold chkE at h
    rw [Bool.and_eq_true] at h
    unfold needE at n
    exact pt_valD (n N sc X fx e h.1 B) (true_ok h.2)
theorem sL {G : GX} {lv : Nat} : ∀ (ir : Es) {N : List Str} {sc : Scope} {es : List Expr}, chkL N sc ir es = true → needEs G lv ir → ∀ {X : Cx}, Fits G lv N sc X → ∀ B : Bs, PEL X G.W B es (evL ir)
  | .nil, N, sc, es, h, n, X, fx, B => by
    unfold chkL at h
    split at h
    · exact .nil
    · cases h
  | .cons e r, N, sc, es, h, n, X, fx, B => by
    unfold chkL at h
    split at h
    · rw [Bool.and_eq_true] at h
      unfold needEs at n
      exact .cons (sE e h.1 n.1 fx B) (sL r h.2 n.2 fx B)
    · cases h
  | .star e r, N, sc, es, h, n, X, fx, B => by
    unfold chkL at h
    cases h
theorem sEs {G : GX} {lv : Nat} : ∀ (ir : Es) {N : List Str} {sc : Scope} {es : List Expr}, chkEs N sc ir es = true → needEs G lv ir → ∀ {X : Cx}, Fits G lv N sc X → ∀ B : Bs, PA X es (tevA G.W B (evEs ir))
  | .nil, N, sc, es, h, n, X, fx, B => by
    unfold chkEs at h
    split at h
    · exact pa_nilD
    · cases h
  | .cons e r, N, sc, es, h, n, X, fx, B => by
    unfold chkEs at h
    split at h
    · simp only [Bool.and_eq_true] at h
      unfold needEs at n
      exact pa_consD (sE e h.1.2 n.1 fx B) (sEs r h.2 n.2 fx B) (star_ok h.1.1)
    · cases h
  | .star e r, N, sc, es, h, n, X, fx, B => by
    unfold chkEs at h
    split at h
    · simp only [Bool.and_eq_true] at h
      unfold needEs at n
      exact pa_starD fx.k (sE e h.1 n.1 fx B) (sEs r h.2 n.2 fx B) rfl
    · cases h
theorem sO {G : GX} {lv : Nat} : ∀ (ir : Oe) {N : List Str} {sc : Scope} {x : Option Expr}, chkO N sc ir x = true → needO G lv ir → ∀ {X : Cx}, Fits G lv N sc X → ∀ B : Bs, PO X x (tov G.W B (evO ir))
  | .no, N, sc, x, h, n, X, fx, B => by
    unfold chkO at h
    split at h
    · exact po_noD
    · cases h
  | .yes e, N, sc, x, h, n, X, fx, B => by
    unfold chkO at h
    split at h
    · unfold needO at n
      exact po_someD (sE e h n fx B)
    · cases h
theorem sB {G : GX} {lv : Nat} : ∀ (c : Bool) (ir : Es) {N : List Str} {sc : Scope} {es : List Expr} {pos : Pos}, chkEs N sc ir es = true → needEs G lv ir → ∀ {X : Cx}, Fits G lv N sc X → ∀ B : Bs, PE X (.BoolOp (if c then BoolOp.And else BoolOp.Or) es pos) (tev G.W B (evB c ir))
  | c, .nil, N, sc, es, pos, h, n, X, fx, B => ⟨fun _ _ _ _ _ _ q => by obtain ⟨_, _, _, _, _, e1, _⟩ := q; unfold evB at e1; cases e1⟩
  | c, .star _ _, N, sc, es, pos, h, n, X, fx, B => ⟨fun _ _ _ _ _ _ q => by obtain ⟨_, _, _, _, _, e1, _⟩ := q; unfold evB at e1; cases e1⟩
  | c, .cons _ (.star _ _), N, sc, es, pos, h, n, X, fx, B => ⟨fun _ _ _ _ _ _ q => by obtain ⟨_, _, _, _, _, e1, _⟩ := q; unfold evB at e1; cases c <;> cases e1⟩
  | c, .cons e .nil, N, sc, es, pos, h, n, X, fx, B => by
    unfold chkEs at h
    split at h
    · simp only [Bool.and_eq_true] at h
      unfold needEs at n
      have h2 := h.2
      unfold chkEs at h2
      split at h2
      · have : evB c (.cons e .nil) = evE e := by cases c <;> rfl
        rw [this]
        exact pe_one (sE e h.1.2 n.1 fx B)
      · cases h2
    · cases h
  | true, .cons e (.cons e2 r), N, sc, es, pos, h, n, X, fx, B => by
    unfold chkEs at h
    split at h
    · simp only [Bool.and_eq_true] at h
      unfold needEs at n
      have h2 := h.2
      have ih := sB true (.cons e2 r) (pos := pos) h.2 n.2 fx B
      unfold chkEs at h2
      split at h2
      · exact pe_andD (sE e h.1.2 n.1 fx B) ih
      · cases h2
    · cases h
  | false, .cons e (.cons e2 r), N, sc, es, pos, h, n, X, fx, B => by
    unfold chkEs at h
    split at h
    · simp only [Bool.and_eq_true] at h
      unfold needEs at n
      have h2 := h.2
      have ih := sB false (.cons e2 r) (pos := pos) h.2 n.2 fx B
      unfold chkEs at h2
      split at h2
      · exact pe_orD (sE e h.1.2 n.1 fx B) ih
      · cases h2
    · cases h
theorem sBT {G : GX} {lv : Nat} : ∀ (c : Bool) (ir : Es) {N : List Str} {sc : Scope} {es : List Expr} {pos : Pos}, chkEs N sc ir es = true → needEs G lv ir → ∀ {X : Cx}, Fits G lv N sc X → ∀ B : Bs, PW X (.BoolOp (if c then BoolOp.And else BoolOp.Or) es pos) (ttv G.W B (evBT c ir))
  | c, .nil, N, sc, es, pos, h, n, X, fx, B => ⟨fun _ _ _ _ _ _ _ q => by obtain ⟨_, _, _, _, _, e1, _⟩ := q; unfold evBT at e1; cases e1⟩
  | c, .star _ _, N, sc, es, pos, h, n, X, fx, B => ⟨fun _ _ _ _ _ _ _ q => by obtain ⟨_, _, _, _, _, e1, _⟩ := q; unfold evBT at e1; cases e1⟩
  | c, .cons _ (.star _ _), N, sc, es, pos, h, n, X, fx, B => ⟨fun _ _ _ _ _ _ _ q => by obtain ⟨_, _, _, _, _, e1, _⟩ := q; unfold evBT at e1; cases c <;> cases e1⟩
  | true, .cons e .nil, N, sc, es, pos, h, n, X, fx, B => by
    unfold chkEs at h
    split at h
    · simp only [Bool.and_eq_true] at h
      unfold needEs at n
      have h2 := h.2
      unfold chkEs at h2
      split at h2
      · exact pw_and1 (sT e h.1.2 n.1 fx B)
      · cases h2
    · cases h
  | false, .cons e .nil, N, sc, es, pos, h, n, X, fx, B => by
    unfold chkEs at h
    split at h
    · simp only [Bool.and_eq_true] at h
      unfold needEs at n
      have h2 := h.2
      unfold chkEs at h2
      split at h2
      · exact pw_or1 (sT e h.1.2 n.1 fx B)
      · cases h2
    · cases h
  | true, .cons e (.cons e2 r), N, sc, es, pos, h, n, X, fx, B => by
    unfold chkEs at h
    split at h
    · simp only [Bool.and_eq_true] at h
      unfold needEs at n
      have h2 := h.2
      have ih := sBT true (.cons e2 r) (pos := pos) h.2 n.2 fx B
      unfold chkEs at h2
      split at h2
      · exact pw_andD (sT e h.1.2 n.1 fx B) ih
      · cases h2
    · cases h
  | false, .cons e (.cons e2 r), N, sc, es, pos, h, n, X, fx, B => by
    unfold chkEs at h
    split at h
    · simp only [Bool.and_eq_true] at h
      unfold needEs at n
      have h2 := h.2
      have ih := sBT false (.cons e2 r) (pos := pos) h.2 n.2 fx B
      unfold chkEs at h2
      split at h2
      · exact pw_orD (sT e h.1.2 n.1 fx B) ih
      · cases h2
    · cases h
theorem sF {G : GX} {lv : Nat} : ∀ (ir : FE) {N : List Str} {sc : Scope} {e : Expr}, chkF N sc ir e = true → needF G lv ir → ∀ {X : Cx}, Fits G lv N sc X → ∀ B : Bs, PE X e (tfr G.W B (evF ir))
  | .dsp es, N, sc, e, h, n, X, fx, B => by
    unfold chkF at h
    split at h
    · unfold needF at n
      exact pe_dspD (sEs es h n fx B)
    · cases h
  | .comp it ct t el own, N, sc, e, h, n, X, fx, B => by
    unfold chkF at h
    split at h
    · rename_i elt tg iter ifs scope pos
      simp only [Bool.and_eq_true] at h
      obtain ⟨⟨⟨⟨⟨⟨h1, h2⟩, h3⟩, h4⟩, h5⟩, h6⟩, h7⟩ := h
      unfold needF at n
      have bo : BlkOk X.N X.env.scope scope own := by rw [fx.n, fx.sc]; exact blkOk_by h1
      refine pe_compD fx.k fx.calm (by rw [fx.n]; exact fx.nd) (sI it h2 n.1 fx B) bo (fun s H C cl fp => ?_) (fun i hi => ?_) (fun s H C cl fp B => ?_) (fun s H C cl fp B => ?_) (fold_ok h3)
      · have f2 := fx.blk (scope := scope) s H C cl fp
        exact ct_ok f2.calm f2.n f2.nd f2.sc (fun x q => q) h4
      · rw [List.all_eq_true] at h5
        simpa using h5 i hi
      · exact sOT t h6 n.2.1 (fx.blk (scope := scope) s H C cl fp) B
      · exact sE el h7 n.2.2 (fx.blk (scope := scope) s H C cl fp) B
    · cases h
  | .comp2 it ct t it1 ct1 t1 el own, N, sc, e, h, n, X, fx, B => by
    unfold chkF at h
    split at h
    · rename_i elt tg iter ifs tg1 iter1 ifs1 scope pos
      simp only [Bool.and_eq_true] at h
      obtain ⟨⟨⟨⟨⟨⟨⟨⟨⟨⟨⟨h1, h2⟩, h3⟩, h4⟩, h5⟩, h6⟩, h7⟩, h8⟩, h9⟩, h10⟩, h11⟩, h12⟩ := h
      unfold needF at n
      have bo : BlkOk X.N X.env.scope scope own := by rw [fx.n, fx.sc]; exact blkOk_by h1
      refine pe_comp2D fx.k fx.calm (by rw [fx.n]; exact fx.nd) (sI it h2 n.1 fx B) bo (fun s H C cl fp => ?_) (fun i hi => ?_) (fun s H C cl fp B => ?_) (fun s H C cl fp B => ?_) (fun s H C cl fp => ?_) (fun i hi => ?_) (fun s H C cl fp B => ?_) (fun s H C cl fp B => ?_) (fold_ok h3) (fun env => fold_ok h9)
      · have f2 := fx.blk (scope := scope) s H C cl fp
        exact ct_ok f2.calm f2.n f2.nd f2.sc (fun x q => q) h4
      · rw [List.all_eq_true] at h5
        simpa using h5 i hi
      · exact sOT t h6 n.2.1 (fx.blk (scope := scope) s H C cl fp) B
      · exact sI it1 h8 n.2.2.1 (fx.blk (scope := scope) s H C cl fp) B
      · have f2 := fx.blk (scope := scope) s H C cl fp
        exact ct_ok f2.calm f2.n f2.nd f2.sc (fun x q => q) h10
      · rw [List.all_eq_true] at h11
        simpa using h11 i hi
      · exact sOT t1 h12 n.2.2.2.1 (fx.blk (scope := scope) s H C cl fp) B
      · exact sE el h7 n.2.2.2.2 (fx.blk (scope := scope) s H C cl fp) B
    · cases h
  | .bl x f es, N, sc, e, h, n, X, fx, B => by
    unfold chkF at h
    split at h
    · rename_i y p v vs pos
      simp only [Bool.and_eq_true, decide_eq_true_eq] at h
      obtain ⟨⟨⟨⟨rfl, h1⟩, h2⟩, h3⟩, h4⟩ := h
      unfold needF at n
      obtain ⟨m, ⟨nn, id, bb, hX⟩, ne⟩ := n
      obtain ⟨r, hc, ok⟩ := hX X fx.adm
      rw [List.all_cons, Bool.and_eq_true] at h3
      exact pe_blD hc ok (show X.env.scope.names.lookup _ = _ by rw [fx.sc]; exact glb_ok h1) (by rw [fx.mg]; exact m) bb (sEs es h4 ne fx B) nn (nodbg_ok h2).1 (star_ok h3.1) (any_ok h3.2)
    · cases h
  | .blt x f es, N, sc, e, h, n, X, fx, B => by
    unfold chkF at h
    split at h
    · rename_i y p v vs pos
      simp only [Bool.and_eq_true, decide_eq_true_eq] at h
      obtain ⟨⟨⟨⟨rfl, h1⟩, h2⟩, h3⟩, h4⟩ := h
      unfold needF at n
      obtain ⟨m, ⟨nn, id, bb, hX⟩, ne⟩ := n
      obtain ⟨r, hc, ok⟩ := hX X fx.adm
      rw [List.all_cons, Bool.and_eq_true] at h3
      exact pe_bltD hc ok (show X.env.scope.names.lookup _ = _ by rw [fx.sc]; exact glb_ok h1) (by rw [fx.mg]; exact m) bb (sEs es h4 ne fx B) nn (nodbg_ok h2).1 (star_ok h3.1) (any_ok h3.2)
    · cases h
  | .ext sh sem es, N, sc, e, h, n, X, fx, B => by
    unfold chkF at h
    split at h
    · rename_i vs hs
      unfold needF at n
      exact n.1 N sc X fx e vs hs _ (sL es h n.2 fx) B
    · cases h
theorem sOT {G : GX} {lv : Nat} : ∀ (ir : Oe) {N : List Str} {sc : Scope} {x : List Expr}, chkT N sc ir x = true → needO G lv ir → ∀ {X : Cx}, Fits G lv N sc X → ∀ B : Bs, PTs X x (ttv G.W B (evOT ir))
  | .no, N, sc, x, h, n, X, fx, B => by
    unfold chkT at h
    split at h
    · exact pts_nilD
    · cases h
  | .yes e, N, sc, x, h, n, X, fx, B => by
    unfold chkT at h
    split at h
    · unfold needO at n
      exact pts_oneD (sT e h n fx B)
    · cases h
theorem sI {G : GX} {lv : Nat} : ∀ (ir : IE) {N : List Str} {sc : Scope} {e tg : Expr}, chkI N sc ir e tg = true → needI G lv ir → ∀ {X : Cx}, Fits G lv N sc X → ∀ B : Bs, PI X tg e (tiv G.W B (evI ir))
  | .ex a, N, sc, e, tg, h, n, X, fx, B => by
    unfold chkI at h
    unfold needI at n
    exact pi_itD fx.k (sE a h n fx B)
  | .rg1 a, N, sc, e, tg, h, n, X, fx, B => by
    unfold chkI at h
    split at h
    · simp only [Bool.and_eq_true, decide_eq_true_eq] at h
      obtain ⟨⟨⟨rfl, h1⟩, h2⟩, h3⟩ := h
      unfold needI at n
      exact pi_rng1D (show X.env.scope.names.lookup _ = _ by rw [fx.sc]; exact glb_ok h1) (by rw [fx.mg]; exact n.1) (pa_consD (sE a h3 n.2 fx B) pa_nilD (star_ok h2)) (star_ok h2)
    · cases h
  | .rg2 a b, N, sc, e, tg, h, n, X, fx, B => by
    unfold chkI at h
    split at h
    · simp only [Bool.and_eq_true, decide_eq_true_eq] at h
      obtain ⟨⟨⟨⟨⟨rfl, h1⟩, h2⟩, h3⟩, h4⟩, h5⟩ := h
      unfold needI at n
      exact pi_rng2D (show X.env.scope.names.lookup _ = _ by rw [fx.sc]; exact glb_ok h1) (by rw [fx.mg]; exact n.1) (pa_consD (sE a h4 n.2.1 fx B) (pa_consD (sE b h5 n.2.2 fx B) pa_nilD (star_ok h3)) (star_ok h2)) (by rw [star_ok h2, star_ok h3]; rfl) (star_ok h3)
    · cases h
  | .zip a b, N, sc, e, tg, h, n, X, fx, B => by
    unfold chkI at h
    split at h
    · simp only [Bool.and_eq_true, decide_eq_true_eq] at h
      obtain ⟨⟨⟨⟨⟨rfl, h1⟩, h2⟩, h3⟩, h4⟩, h5⟩ := h
      unfold needI at n
      exact pi_zipD fx.k (show X.env.scope.names.lookup _ = _ by rw [fx.sc]; exact glb_ok h1) (by rw [fx.mg]; exact n.1) (pa_consD (sE a h4 n.2.1 fx B) (pa_consD (sE b h5 n.2.2 fx B) pa_nilD (star_ok h3)) (star_ok h2)) (star_ok h2) (any_ok (by simp [h3]))
    · cases h
  | .ext sh sem es, N, sc, e, tg, h, n, X, fx, B => by
    unfold chkI at h
    split at h
    · rename_i vs hs
      unfold needI at n
      exact n.1 N sc X fx e tg vs hs _ (sL es h n.2 fx) B
    · cases h
end
end DE
set_option Elab.async false
set_option linter.all false
set_option maxRecDepth 100000
set_option maxHeartbeats 8000000
namespace DE
open PySem PySem.Spec L2
section
variable {X : Cx} {W : Wd} {B : Bs} {a b c e tg : Expr} {fa fb fc : Ev} {pos p : Pos}
theorem ZR.cell_set {ι : List Addr} {H : Hp} {σ : L2.St} {z : Z} {n : Nat} {m m' : MO} {q : Addr} {o o' : HO} (zr : ZR W B ι H σ z) (hn : z.2[n]? = some m) (hq : ι[n]? = some q) (ho : H q = some o) (hi : ∀ C dx fs, o = .ins C dx fs → q ∈ ι) (hf : fzn o = false) (hm : Kp ι H ι (upd H q o') → MRep W ι (upd H q o') q m') :
    Kp ι H ι (upd H q o') ∧ ZR W B ι (upd H q o') σ (z.1, z.2.set n m') := by
  have hqm : q ∈ ι := List.mem_of_getElem? hq
  have k2 : Kp ι H ι (upd H q o') := Kp.at_ ho hf hi
  have hnl : n < z.2.length := (List.getElem?_eq_some_iff.mp hn).1
  refine ⟨k2, ⟨zr.st.tb.upd (zr.st.nte hqm), by simp [zr.st.len], zr.st.nd, fun j mo a e1 e2 => ?_⟩, zr.pre, zr.new, fun b u x nb => ?_, zr.newP, fun b u x => ?_, zr.len, fun i dv x => ?_, zr.dis⟩
  · by_cases hj : j = n
    · subst hj
      simp only [List.getElem?_set_self hnl] at e1
      cases e1
      rw [hq] at e2; cases e2
      exact hm k2
    · simp only [List.getElem?_set_ne (Ne.symm hj)] at e1
      refine (zr.st.at_ j mo a e1 e2).kp k2 fun u x => ?_
      rw [upd_ne]
      · exact x
      · rintro rfl
        obtain ⟨h1, e1'⟩ := List.getElem?_eq_some_iff.mp e2
        obtain ⟨h2, e2'⟩ := List.getElem?_eq_some_iff.mp hq
        exact hj ((List.getElem_inj zr.st.nd).mp (e1'.trans e2'.symm))
  · rw [upd_ne]
    · exact zr.keep b u x nb
    · rintro rfl
      rw [zr.new b hqm nb] at x; cases x
  · rw [upd_ne]
    · exact zr.keepP b u x
    · rintro rfl
      rw [zr.newP b hqm] at x; cases x
  · obtain ⟨v, hv, r⟩ := zr.slot i dv x
    refine ⟨v, hv, ?_⟩
    cases dv with
    | imm d => exact ⟨r.1, r.2.kp k2 r.1⟩
    | own ds => obtain ⟨l, a, xs, e, y, b, nn, rl⟩ := r; exact ⟨l, a, xs, e, by rw [upd_ne (fun h : a = q => nn (by rw [h]; exact hqm))]; exact y, b, nn, rl.kp k2⟩
    | oT ds => obtain ⟨l, a, xs, e, y, b, nn, rl⟩ := r; exact ⟨l, a, xs, e, by rw [upd_ne (fun h : a = q => nn (by rw [h]; exact hqm))]; exact y, b, nn, rl.kp k2⟩
    | oK ds => obtain ⟨l, a, xs, e, y, b, nn, rl⟩ := r; exact ⟨l, a, xs, e, by rw [upd_ne (fun h : a = q => nn (by rw [h]; exact hqm))]; exact y, b, nn, rl.kp k2⟩
    | obj a => exact r
    | brw ds => obtain ⟨l, a, xs, e, y, b, m, nn, rl⟩ := r; exact ⟨l, a, xs, e, by rw [upd_ne (fun h : a = q => nn (by rw [h]; exact hqm))]; exact y, b, m, nn, rl.kp k2⟩
def setD (x y d : D) (z : Z) : Option Z := match x, y with
  | .han n, .int i => (match z.2[n]? with
    | some (.lst ds) => (ixOf ds.length i).map fun k => (z.1, z.2.set n (.lst (ds.set k d)))
    | _ => none)
  | .bor j, .int i => (match z.1[j]? with
    | some (some (.own ds)) => (ixOf ds.length i).map fun k => (z.1.set j (some (.own (ds.set k d))), z.2)
    | _ => none)
  | _, _ => none
def gIdx (fa fb : Ev) : EvG := fun d z => (fa z).bind fun x => (fb x.2).bind fun y => setD x.1 y.1 d y.2
theorem pg_subD {o i : Expr} (ho : PE X o (tev W B fa)) (hi : PE X i (tev W B fb)) (ha : ∀ v, assign (.Subscript o i pos) X.env v = (do
      let ov ← holding [v] (eval o X.env)
      let iv ← holding [v, ov] (eval i X.env)
      standAt pos
      holding [v, ov, iv] (setItem ov iv v)
      release [v, ov, iv] [])) : PG X (.Subscript o i pos) (tgv W B (gIdx fa fb)) := by
  refine pg_mono (pg_sub ho hi set_list ha) fun v σ H Q q => ?_
  obtain ⟨ι, z, d, z', zr, p, r, e1, k⟩ := q
  unfold gIdx at e1
  cases ea : fa z with
  | none => rw [ea] at e1; cases e1
  | some x =>
    rw [ea, Option.bind_some] at e1
    cases eb : fb x.2 with
    | none => rw [eb] at e1; cases e1
    | some y =>
      rw [eb, Option.bind_some] at e1
      refine ⟨ι, z, x.1, x.2, zr, ea, fun vo ι1 H1 k1 r1 zr1 => ⟨ι1, x.2, y.1, y.2, zr1, eb, fun vi ι2 H2 k2 r2 zr2 => ?_⟩⟩
      have rv : Rep W ι2 H2 d v := (r.kp k1 p).kp k2 p
      have r1' := r1.kp k2
      unfold setD at e1
      split at e1
      · rename_i n i hx hy
        rw [hx] at r1'
        rw [hy] at r2
        split at e1
        · rename_i ds hn
          cases e3 : ixOf ds.length i with
          | none => rw [e3] at e1; cases e1
          | some j =>
            rw [e3] at e1; cases e1
            obtain ⟨_, hr⟩ := r1'
            unfold Rep at hr
            obtain ⟨q, hq, rfl⟩ := hr
            obtain ⟨l, xs, hx2, rl⟩ := zr2.st.at_ n _ q hn hq
            refine ⟨q, xs, i, j, rfl, x_int r2, hx2, by rw [← rl.length]; exact e3, ?_⟩
            obtain ⟨k3, zr3⟩ := zr2.cell_set hn hq hx2 (fun _ _ _ h => by cases h) rfl (o' := .lst (xs.set j v)) (m' := .lst (ds.set j d)) fun k3 => ⟨by rw [List.length_set]; exact l, _, upd_same, (rl.set j rv p).kp k3⟩
            exact k σ ι2 _ ((k1.trans k2).trans k3) zr3
        · cases e1
      · rename_i n i hx hy
        rw [hx] at r1'
        rw [hy] at r2
        split at e1
        · rename_i ds hn
          cases e3 : ixOf ds.length i with
          | none => rw [e3] at e1; cases e1
          | some j =>
            rw [e3] at e1; cases e1
            have hs : σ[n]? = some (some vo) := r1'
            obtain ⟨w, hw, l, q, xs, ev, hq, hb, hnn, rl⟩ := zr2.slot n _ hn
            rw [hs] at hw; cases hw
            subst ev
            refine ⟨q, xs, i, j, rfl, x_int r2, hq, by rw [← rl.length]; exact e3, ?_⟩
            obtain ⟨k3, zr3⟩ := zr2.own_set hn hs hq (ds' := ds.set j d) (by rw [List.length_set]; exact l) (rl.set j rv p)
            exact k σ ι2 _ ((k1.trans k2).trans k3) zr3
        · cases e1
      · cases e1
theorem ps_lcOwnD {i : Nat} {y : Str} {py : Pos} {elt iter : Expr} {ifs : List Expr} {scope : Scope} {own : List (Str × Nat)} {fi : EvA} {ct : CT} {t : EvT} {f : Ev} {spos : Pos} (hK : X.K = W.K) (hc : X.calm = true) (hN : X.N.Nodup) (hy : X.N[i]? = some y) (hyl : X.env.scope.names.lookup y = some .local)
    (hsw : swapsWith (.ListComp elt [⟨tg, iter, ifs, 0⟩] scope pos) (some (.Name y py)) spos.line X.env = pure true) (hi : PI X tg iter (tiv W B fi)) (ok : BlkOk X.N X.env.scope scope own)
    (hg : ∀ (s : Shared) (H : Hp) (C : Addr) (cl : List (Str × Addr)) (fp : List Addr), PG (X.blk s H scope (compEnvC scope cl C X.env) fp) tg (ctg X.K ct)) (hct : ∀ i ∈ ct.slots, i ∈ own.map (·.2))
    (ht : ∀ (s : Shared) (H : Hp) (C : Addr) (cl : List (Str × Addr)) (fp : List Addr) (B : Bs), PTs (X.blk s H scope (compEnvC scope cl C X.env) fp) ifs (ttv W B t))
    (he : ∀ (s : Shared) (H : Hp) (C : Addr) (cl : List (Str × Addr)) (fp : List Addr) (B : Bs), PE (X.blk s H scope (compEnvC scope cl C X.env) fp) elt (tev W B f)) (hs : ∀ x, foldedSetIterable iter X.env x = pure x) :
    PS X (.Assign [.Name y py] (.ListComp elt [⟨tg, iter, ifs, 0⟩] scope pos) spos) (tss W B (sOwn i (fComp fi ct t f (own.map (·.2))))) := by
  refine ps_mono (ps_setLc hc hN hy hyl hsw hi ok hg (fun s H C cl fp => pts_anyB (ht s H C cl fp)) (fun s H C cl fp => pe_anyB (he s H C cl fp)) hs) fun D σ H q => ?_
  refine tlc_of hK hct σ H _ ?_
  obtain ⟨ι, z, fl, z', zr, e1, k⟩ := q
  unfold sOwn at e1
  cases ef : fComp fi ct t f (own.map (·.2)) z with
  | none => rw [ef] at e1; cases e1
  | some x =>
    rw [ef] at e1; cases e1
    exact ⟨ι, z, x.1, x.2, zr, ef, fun p xs ι1 H1 k1 zr1 r l _ hp fr => k _ ι1 H1 k1 (zr1.setOwn fr rfl ⟨l, p, xs, rfl, hp, fr.b, fr.i, r⟩)⟩
theorem ps_lcOwn2D {i : Nat} {y : Str} {py : Pos} {elt iter tg1 iter1 : Expr} {ifs ifs1 : List Expr} {scope : Scope} {own : List (Str × Nat)} {fi fi1 : EvA} {ct ct1 : CT} {t t1 : EvT} {f : Ev} {spos : Pos} (hK : X.K = W.K) (hc : X.calm = true) (hN : X.N.Nodup) (hy : X.N[i]? = some y) (hyl : X.env.scope.names.lookup y = some .local)
    (hsw : swapsWith (.ListComp elt [⟨tg, iter, ifs, 0⟩, ⟨tg1, iter1, ifs1, 0⟩] scope pos) (some (.Name y py)) spos.line X.env = pure true) (hi : PI X tg iter (tiv W B fi)) (ok : BlkOk X.N X.env.scope scope own)
    (hg : ∀ (s : Shared) (H : Hp) (C : Addr) (cl : List (Str × Addr)) (fp : List Addr), PG (X.blk s H scope (compEnvC scope cl C X.env) fp) tg (ctg X.K ct)) (hct : ∀ i ∈ ct.slots, i ∈ own.map (·.2))
    (ht : ∀ (s : Shared) (H : Hp) (C : Addr) (cl : List (Str × Addr)) (fp : List Addr) (B : Bs), PTs (X.blk s H scope (compEnvC scope cl C X.env) fp) ifs (ttv W B t))
    (hi1 : ∀ (s : Shared) (H : Hp) (C : Addr) (cl : List (Str × Addr)) (fp : List Addr) (B : Bs), PI (X.blk s H scope (compEnvC scope cl C X.env) fp) tg1 iter1 (tiv W B fi1))
    (hg1 : ∀ (s : Shared) (H : Hp) (C : Addr) (cl : List (Str × Addr)) (fp : List Addr), PG (X.blk s H scope (compEnvC scope cl C X.env) fp) tg1 (ctg X.K ct1)) (hct1 : ∀ i ∈ ct1.slots, i ∈ own.map (·.2))
    (ht1 : ∀ (s : Shared) (H : Hp) (C : Addr) (cl : List (Str × Addr)) (fp : List Addr) (B : Bs), PTs (X.blk s H scope (compEnvC scope cl C X.env) fp) ifs1 (ttv W B t1))
    (he : ∀ (s : Shared) (H : Hp) (C : Addr) (cl : List (Str × Addr)) (fp : List Addr) (B : Bs), PE (X.blk s H scope (compEnvC scope cl C X.env) fp) elt (tev W B f)) (hs : ∀ x, foldedSetIterable iter X.env x = pure x) (hs1 : ∀ env x, foldedSetIterable iter1 env x = pure x) :
    PS X (.Assign [.Name y py] (.ListComp elt [⟨tg, iter, ifs, 0⟩, ⟨tg1, iter1, ifs1, 0⟩] scope pos) spos) (tss W B (sOwn i (fComp2 fi ct t fi1 ct1 t1 f (own.map (·.2)) ct1.slots))) := by
  refine ps_mono (ps_setLc2 hc hN hy hyl hsw hi ok hct1 hg (fun s H C cl fp => pts_anyB (ht s H C cl fp)) (fun s H C cl fp => pi_anyB (hi1 s H C cl fp)) hg1 (fun s H C cl fp => pts_anyB (ht1 s H C cl fp)) (fun s H C cl fp => pe_anyB (he s H C cl fp)) hs hs1) fun D σ H q => ?_
  refine tlc2_of hK hct (fun _ h => h) hct1 σ H _ ?_
  obtain ⟨ι, z, fl, z', zr, e1, k⟩ := q
  unfold sOwn at e1
  cases ef : fComp2 fi ct t fi1 ct1 t1 f (own.map (·.2)) ct1.slots z with
  | none => rw [ef] at e1; cases e1
  | some x =>
    rw [ef] at e1; cases e1
    exact ⟨ι, z, x.1, x.2, zr, ef, fun p xs ι1 H1 k1 zr1 r l _ hp fr => k _ ι1 H1 k1 (zr1.setOwn fr rfl ⟨l, p, xs, rfl, hp, fr.b, fr.i, r⟩)⟩
/-- the name's own list is kept from the start -/
def sSetF (i : Nat) (f : EvA) : EvS := fun z => (f z).map fun x => (.nx, (x.2.1.set i (some (.imm (.lst x.1))), x.2.2))
theorem ps_frzD {i : Nat} {st : Stmt} {f : EvA} (h : PS X st (tss W B (sOwn i f))) : PS X st (tss W B (sSetF i f)) := by
  refine ⟨fun pins s σ H D I q => ?_⟩
  obtain ⟨ι, z, fl, z', zr, e1, k⟩ := q
  unfold sSetF at e1
  cases ef : f z with
  | none => rw [ef] at e1; cases e1
  | some x =>
    rw [ef] at e1; cases e1
    have e2 : sOwn i f z = some (.nx, (x.2.1.set i (some (.own x.1)), x.2.2)) := by unfold sOwn; rw [ef]; rfl
    refine thn (h.run pins s σ H ⟨fun σ' H' => ∃ ι', Kp ι H ι' H' ∧ ZR W B ι' H' σ' (x.2.1.set i (some (.own x.1)), x.2.2), fun _ _ => False, fun _ _ => False, fun _ _ => False⟩ I ⟨ι, z, .nx, _, zr, e2, fun σ' ι' H' k1 zr1 => ⟨ι', k1, zr1⟩⟩) fun fl s' hq => ?_
    cases fl with
    | next =>
      obtain ⟨σ', H', I', ι', k1, zr1⟩ := hq
      by_cases hil : i < x.2.1.length
      · have hi : (x.2.1.set i (some (.own x.1)))[i]? = some (some (.own x.1)) := List.getElem?_set_self hil
        obtain ⟨v, hs, l, p, xs, ev, hp, hb, hn, rl⟩ := zr1.slot i _ hi
        obtain ⟨o, I2⟩ := I'.lock hp trivial
        have k2 : Kp ι' H' ι' (upd H' p (.frz o (.lst xs))) := Kp.at_ hp rfl (fun _ _ _ q => by cases q)
        have rp : Rep W ι' (upd H' p (.frz o (.lst xs))) (.lst x.1) v := by
          unfold Rep
          exact ⟨l, p, xs, ev, .inl ⟨o, upd_same⟩, rl.kp k2⟩
        refine ⟨σ', _, I2, k σ' ι' _ (k1.trans k2) ?_⟩
        have es : x.2.1.set i (some (.imm (.lst x.1))) = (x.2.1.set i (some (.own x.1))).set i (some (.imm (.lst x.1))) := by rw [List.set_set]
        show ZR W B ι' _ σ' (x.2.1.set i (some (.imm (.lst x.1))), x.2.2)
        rw [es]
        generalize x.2.1.set i (some (.own x.1)) = ρ at zr1 hi
        have hil2 : i < ρ.length := (List.getElem?_eq_some_iff.mp hi).1
        refine ⟨zr1.st.same (zr1.st.tb.upd (nte_lst hp)) k2 fun a ha u e => by rw [upd_ne (fun q : a = p => hn (q ▸ ha))]; exact e, zr1.pre, zr1.new, fun b u x n => by rw [upd_ne (fun q => by rw [q, hb.1] at x; cases x)]; exact zr1.keep b u x n, zr1.newP, fun b u x => by rw [upd_ne (fun q => by rw [q, hb.2] at x; cases x)]; exact zr1.keepP b u x, by rw [← zr1.len]; exact List.length_set .., fun j dv hj => ?_, fun j1 j2 dv dv' a' h1 o1 h2 o2 s1 s2 => ?_⟩
        · by_cases hji : j = i
          · subst hji
            simp only [List.getElem?_set_self hil2] at hj
            cases hj
            exact ⟨v, hs, rfl, rp⟩
          · simp only [List.getElem?_set_ne (Ne.symm hji)] at hj
            obtain ⟨u', hu', r'⟩ := zr1.slot j dv hj
            refine ⟨u', hu', r'.off k2 hb fun ho e => hji ?_⟩
            exact zr1.dis j i dv _ p hj ho hi rfl (by rw [hu', e]) (by rw [hs, ev])
        · have f : ∀ {j : Nat} {dv : DV}, (ρ.set i (some (.imm (.lst x.1))))[j]? = some (some dv) → dv.isOwn = true → ρ[j]? = some (some dv) := fun {j dv} hj ho => by
            by_cases hji : j = i
            · subst hji
              rw [List.getElem?_set_self hil2] at hj
              cases hj; cases ho
            · rw [List.getElem?_set_ne (Ne.symm hji)] at hj
              exact hj
          exact zr1.dis j1 j2 dv dv' a' (f h1 o1) o1 (f h2 o2) o2 s1 s2
      · have es : ∀ y, x.2.1.set i y = x.2.1 := fun y => List.set_eq_of_length_le (by omega)
        refine ⟨σ', H', I', k σ' ι' H' k1 ?_⟩
        show ZR W B ι' H' σ' (x.2.1.set i _, x.2.2)
        rw [es] at zr1 ⊢
        exact zr1
    | ret v => obtain ⟨_, _, _, _, _, q⟩ := hq; exact q.elim
    | brk => obtain ⟨_, _, _, q⟩ := hq; exact q.elim
    | cont => obtain ⟨_, _, _, q⟩ := hq; exact q.elim
inductive PEl where
  | v (e : E) | o (f : FE)
def evP : PEl → Z → Option (DV × Z)
  | .v e, z => (evE e z).bind fun x => if x.1.plain then some (.imm x.1, x.2) else none
  | .o f, z => (evF f z).map fun x => (.own x.1, x.2)
def tpl (W : Wd) (B : Bs) (f : Z → Option (DV × Z)) : TE := fun σ H Q => ∃ ι z dv z', ZR W B ι H σ z ∧ f z = some (dv, z') ∧ ∀ v ι' H', Kp ι H ι' H' → ZR W B ι' H' σ z' → DRep W B ι' H' v dv → (dv.isOwn = true → ∃ ds p, dv = .own ds ∧ v = .ref p ∧ Fr B ι' σ z' p) → Q v H'
def tplX (W : Wd) (f : Z → Option (DV × Z)) : TE := fun σ H Q => ∃ B, tpl W B f σ H Q
theorem pe_plv {ir : E} (h : PE X e (tev W B (evE ir))) : PE X e (tpl W B (evP (.v ir))) := by
  refine pe_mono h fun σ H Q q => ?_
  obtain ⟨ι, z, dv, z', zr, e1, k⟩ := q
  unfold evP at e1
  simp only at e1
  cases ea : evE ir z with
  | none => rw [ea] at e1; cases e1
  | some x =>
    rw [ea, Option.bind_some] at e1
    split at e1
    · rename_i hp
      cases e1
      exact ⟨ι, z, x.1, x.2, zr, ea, fun v ι' H' k1 r zr1 => k v ι' H' k1 zr1 ⟨hp, r.rep hp⟩ fun h => by cases h⟩
    · cases e1
theorem pe_plo {ir : FE} (h : PE X e (tfr W B (evF ir))) : PE X e (tpl W B (evP (.o ir))) := by
  refine pe_mono h fun σ H Q q => ?_
  obtain ⟨ι, z, dv, z', zr, e1, k⟩ := q
  unfold evP at e1
  simp only at e1
  cases ea : evF ir z with
  | none => rw [ea] at e1; cases e1
  | some x =>
    rw [ea] at e1
    cases e1
    exact ⟨ι, z, x.1, x.2, zr, ea, fun p xs ι' H' k1 zr1 r l _ hp fr => k _ ι' H' k1 zr1 ⟨l, p, xs, rfl, hp, fr.b, fr.i, r⟩ fun _ => ⟨_, p, rfl, rfl, fr⟩⟩
def sPar2 (i j : Nat) (f g : Z → Option (DV × Z)) : EvS := fun z => (f z).bind fun x => (g x.2).map fun y => (.nx, ((y.2.1.set i (some x.1)).set j (some y.1), y.2.2))
theorem ZR.setDV {ι : List Addr} {H : Hp} {σ : L2.St} {z : Z} {i : Nat} {dv : DV} {v : V} (zr : ZR W B ι H σ z) (r : DRep W B ι H v dv) (ho : dv.isOwn = true → ∃ ds p, dv = .own ds ∧ v = .ref p ∧ Fr B ι σ z p) (hb : ∀ ds, dv ≠ .brw ds) (hj : ∀ a, dv ≠ .obj a) : ZR W B ι H (σ.set i (some v)) (z.1.set i (some dv), z.2) := by
  cases dv with
  | imm d => exact zr.set r.1 r.2
  | own ds => obtain ⟨_, p, _, rfl, fr⟩ := ho rfl; exact zr.setOwn fr rfl r
  | oT ds => obtain ⟨_, p, h, _⟩ := ho rfl; cases h
  | oK ds => obtain ⟨_, p, h, _⟩ := ho rfl; cases h
  | brw ds => exact absurd rfl (hb ds)
  | obj a => exact absurd rfl (hj a)
theorem evP_nb {el : PEl} {z z' : Z} {dv : DV} (h : evP el z = some (dv, z')) : ∀ ds, dv ≠ .brw ds := by
  intro ds e
  subst e
  cases el with
  | v e =>
    unfold evP at h
    simp only at h
    cases ea : evE e z with
    | none => rw [ea] at h; cases h
    | some x =>
      rw [ea, Option.bind_some] at h
      split at h <;> cases h
  | o f =>
    unfold evP at h
    simp only at h
    cases ea : evF f z with
    | none => rw [ea] at h; cases h
    | some x => rw [ea] at h; cases h
theorem evP_no {el : PEl} {z z' : Z} {dv : DV} (h : evP el z = some (dv, z')) : ∀ a, dv ≠ .obj a := by
  intro ds e
  subst e
  cases el with
  | v e =>
    unfold evP at h
    simp only at h
    cases ea : evE e z with
    | none => rw [ea] at h; cases h
    | some x =>
      rw [ea, Option.bind_some] at h
      split at h <;> cases h
  | o f =>
    unfold evP at h
    simp only at h
    cases ea : evF f z with
    | none => rw [ea] at h; cases h
    | some x => rw [ea] at h; cases h
theorem tpl_mono {f : Z → Option (DV × Z)} {σ : L2.St} {H : Hp} {R R' : VK} (h : tpl W B f σ H R) (m : ∀ v H1, R v H1 → R' v H1) : tpl W B f σ H R' := let ⟨ι, z, dv, z', zr, e, k⟩ := h; ⟨ι, z, dv, z', zr, e, fun v ι' H' k1 zr1 d f => m v H' (k v ι' H' k1 zr1 d f)⟩
theorem tplX_mono {f : Z → Option (DV × Z)} {σ : L2.St} {H : Hp} {R R' : VK} (h : tplX W f σ H R) (m : ∀ v H1, R v H1 → R' v H1) : tplX W f σ H R' := let ⟨B, q⟩ := h; ⟨B, tpl_mono q m⟩
theorem tcons_mono {f g : Z → Option (DV × Z)} {σ : L2.St} {H : Hp} {Q Q' : List V → Hp → Prop} (h : tCons (tpl W B f) (tCons (tplX W g) tNil) σ H Q) (m : ∀ vs H2, Q vs H2 → Q' vs H2) : tCons (tpl W B f) (tCons (tplX W g) tNil) σ H Q' := tpl_mono h fun v H1 r => tplX_mono r fun v2 H2 q => m [v, v2] H2 q
/-- what both roads of a, b = x, y come to -/
theorem par_core {i j : Nat} {ea eb : PEl} {D : Ends} {σ : L2.St} {H : Hp} (q : tss W B (sPar2 i j (evP ea) (evP eb)) D σ H) : tCons (tpl W B (evP ea)) (tCons (tplX W (evP eb)) tNil) σ H fun vs H2 => ∃ v1 v2, vs = [v1, v2] ∧ ∃ ι2 zf, ZR W B ι2 H2 ((σ.set i (some v1)).set j (some v2)) zf ∧ ∀ ι3 H3, Kp ι2 H2 ι3 H3 → ZR W B ι3 H3 ((σ.set i (some v1)).set j (some v2)) zf → D.nx ((σ.set i (some v1)).set j (some v2)) H3 := by
  obtain ⟨ι, z, fl, z', zr, e1, k⟩ := q
  unfold sPar2 at e1
  cases e2 : evP ea z with
  | none => rw [e2] at e1; cases e1
  | some u =>
    rw [e2, Option.bind_some] at e1
    cases e3 : evP eb u.2 with
    | none => rw [e3] at e1; cases e1
    | some w =>
      rw [e3] at e1; cases e1
      have nb1 := evP_nb e2
      have nb2 := evP_nb e3
      have no1 := evP_no e2
      have no2 := evP_no e3
      refine ⟨ι, z, u.1, u.2, zr, e2, fun v1 ι1 H1 k1 zr1 d1 f1 => ?_⟩
      cases hu : u.1 with
      | imm d =>
        rw [hu] at d1
        refine ⟨B, ι1, u.2, w.1, w.2, zr1, e3, fun v2 ι2 H2 k2 zr2 d2 f2 => ⟨v1, v2, rfl, ?_⟩⟩
        have d1' : DRep W B ι2 H2 v1 (.imm d) := ⟨d1.1, d1.2.kp k2 d1.1⟩
        refine ⟨ι2, _, ?_, fun ι3 H3 k3 zr3 => k _ ι3 H3 ((k1.trans k2).trans k3) zr3⟩
        rw [hu]
        have zr3 := zr2.set (i := i) d1'.1 d1'.2
        refine zr3.setDV d2 (fun ho => ?_) nb2 no2
        obtain ⟨ds, p, h1, h2, fr⟩ := f2 ho
        refine ⟨ds, p, h1, h2, fr.b, fr.i, fun j' dv' hj' ho' hs' => ?_⟩
        by_cases hji : j' = i
        · subst hji
          have hl : j' < w.2.1.length := by
            have := (List.getElem?_eq_some_iff.mp hj').1
            simpa using this
          simp only [List.getElem?_set_self hl] at hj'
          cases hj'; cases ho'
        · simp only [List.getElem?_set_ne (Ne.symm hji)] at hj' hs'
          exact fr.o j' dv' hj' ho' hs'
      | own ds =>
        rw [hu] at d1 f1
        obtain ⟨_, p1, h1, rfl, fr1⟩ := f1 rfl
        cases h1
        obtain ⟨l1, a1, xs1, ev1, hp1, hb1, hn1, rl1⟩ := d1
        cases ev1
        refine ⟨⟨B.ι, B.H, upd B.P p1 (.lst xs1)⟩, ι1, u.2, w.1, w.2, zr1.guard fr1 hp1, e3, fun v2 ι2 H2 k2 zr2 d2 f2 => ⟨.ref p1, v2, rfl, ?_⟩⟩
        obtain ⟨zu, fu, hpu⟩ := ZR.unguard hb1 zr2
        refine ⟨ι2, _, ?_, fun ι3 H3 k3 zr3 => k _ ι3 H3 ((k1.trans k2).trans k3) zr3⟩
        rw [hu]
        have zr3 := zu.setOwn (i := i) fu rfl (dv := .own ds) ⟨l1, p1, xs1, rfl, hpu, hb1, fu.i, rl1.kp k2⟩
        have f2' : w.1.isOwn = true → ∃ ds p, w.1 = .own ds ∧ v2 = .ref p ∧ Fr B ι2 σ w.2 p ∧ p ≠ p1 := fun ho => by
          obtain ⟨ds, p, h1, h2, fr⟩ := f2 ho
          have hpn : upd B.P p1 (.lst xs1) p = none := fr.b.2
          have hne : p ≠ p1 := fun q => by rw [q, upd_same] at hpn; cases hpn
          rw [upd_ne hne] at hpn
          exact ⟨ds, p, h1, h2, ⟨⟨fr.b.1, hpn⟩, fr.i, fr.o⟩, hne⟩
        have d2' : DRep W B ι2 H2 v2 w.1 := by
          cases hw1 : w.1 with
          | imm d => rw [hw1] at d2; exact d2
          | own ds2 =>
            rw [hw1] at d2 f2'
            obtain ⟨l, a, xs, e, y, b, n, rl⟩ := d2
            obtain ⟨_, p, _, h2, fr, _⟩ := f2' rfl
            rw [e] at h2; cases h2
            exact ⟨l, a, xs, e, y, fr.b, n, rl⟩
          | oT ds2 => obtain ⟨_, _, h, _⟩ := f2 (by rw [hw1]; rfl); rw [hw1] at h; cases h
          | oK ds2 => obtain ⟨_, _, h, _⟩ := f2 (by rw [hw1]; rfl); rw [hw1] at h; cases h
          | brw ds2 => exact absurd hw1 (nb2 ds2)
          | obj a2 => exact absurd hw1 (no2 a2)
        refine zr3.setDV d2' (fun ho => ?_) nb2 no2
        obtain ⟨ds2, p, h1, h2, fr, hne⟩ := f2' ho
        refine ⟨ds2, p, h1, h2, fr.b, fr.i, fun j' dv' hj' ho' hs' => ?_⟩
        by_cases hji : j' = i
        · subst hji
          have hl : j' < w.2.1.length := by
            have := (List.getElem?_eq_some_iff.mp hj').1
            simpa using this
          rw [List.getElem?_set_self (by rw [← zu.len]; exact hl)] at hs'
          cases hs'
          exact hne rfl
        · simp only [List.getElem?_set_ne (Ne.symm hji)] at hj' hs'
          exact fr.o j' dv' hj' ho' hs'
      | oT ds => obtain ⟨_, _, h, _⟩ := f1 (by rw [hu]; rfl); rw [hu] at h; cases h
      | oK ds => obtain ⟨_, _, h, _⟩ := f1 (by rw [hu]; rfl); rw [hu] at h; cases h
      | brw ds => exact absurd hu (nb1 ds)
      | obj a => exact absurd hu (no1 a)
theorem ps_par2D {i j : Nat} {x y : Str} {ea eb : PEl} {px py pt : Pos} {kt k2 pt2} (hc : X.calm = true) (hN : X.N.Nodup) (hi : X.N[i]? = some x) (hj : X.N[j]? = some y) (hij : i ≠ j)
    (hx : X.env.scope.names.lookup x = some .local) (hy : X.env.scope.names.lookup y = some .local) (ha : ∀ B, PE X a (tpl W B (evP ea))) (hb : ∀ B, PE X b (tpl W B (evP eb)))
    (hsa : starEach [a, b] X.env = (false, eval a X.env) :: starEach [b] X.env) (hsb : starEach [b] X.env = (false, eval b X.env) :: starEach [] X.env)
    (hw : swappedStores [.Tuple [.Name x px, .Name y py] kt pt] (.Tuple [a, b] k2 pt2) X.env = pure (some [x, y]))
    (hs : swapsWithSole [.Tuple [.Name x px, .Name y py] kt pt] (.Tuple [a, b] k2 pt2) pos.line X.env = pure false) :
    PS X (.Assign [.Tuple [.Name x px, .Name y py] kt pt] (.Tuple [a, b] k2 pt2) pos) (tss W B (sPar2 i j (evP ea) (evP eb))) := by
  have hbX : PE X b (tplX W (evP eb)) := ⟨fun pins s σ H Q I ⟨B, q⟩ => (hb B).run pins s σ H Q I q⟩
  refine ps_mono (ps_par hc hN hi hj hij hx hy (pa_cons (ha B) (pa_cons hbX pa_nil hsb) hsa) hw hs) fun D σ H q => ?_
  exact tcons_mono (par_core q) fun vs H2 ⟨v1, v2, e, ι2, zf, zr, k⟩ => ⟨v1, v2, e, k ι2 H2 .refl zr⟩
/-- .. through a tuple -/
theorem ps_par2T {i j : Nat} {x y : Str} {ea eb : PEl} {px py pt : Pos} {kt k2 pt2} (hc : X.calm = true) (hN : X.N.Nodup) (hi : X.N[i]? = some x) (hj : X.N[j]? = some y)
    (hx : Loc X.env.scope x) (hy : Loc X.env.scope y) (hfn : ∀ x, X.fn x = true) (ha : ∀ B, PE X a (tpl W B (evP ea))) (hb : ∀ B, PE X b (tpl W B (evP eb)))
    (hsa : starEach [a, b] X.env = (false, eval a X.env) :: starEach [b] X.env) (hsb : starEach [b] X.env = (false, eval b X.env) :: starEach [] X.env)
    (hw : swappedStores [.Tuple [.Name x px, .Name y py] kt pt] (.Tuple [a, b] k2 pt2) X.env = pure none)
    (hs : swapsWithSole [.Tuple [.Name x px, .Name y py] kt pt] (.Tuple [a, b] k2 pt2) pos.line X.env = pure false) :
    PS X (.Assign [.Tuple [.Name x px, .Name y py] kt pt] (.Tuple [a, b] k2 pt2) pos) (tss W B (sPar2 i j (evP ea) (evP eb))) := by
  have hbX : PE X b (tplX W (evP eb)) := ⟨fun pins s σ H Q I ⟨B, q⟩ => (hb B).run pins s σ H Q I q⟩
  refine ps_mono (ps_asg (pe_tup (pa_cons (ha B) (pa_cons hbX pa_nil hsb) hsa)) (pg_tup hc (pgs_cons (pg_name hN hi hx (.inl (hfn x))) (pgs_cons (pg_name hN hj hy (.inl (hfn y))) pgs_nil))) hs hw) fun D σ H q => ?_
  show tCons (tpl W B (evP ea)) (tCons (tplX W (evP eb)) tNil) σ H (fun xs H1 => xs.length ≤ sizeLine ∧ ∀ p, H1 p = none → gTup X.K 2 (gCons (gName i) (gCons (gName j) gNil)) (.ref p) σ (upd H1 p (.tup xs)) D.nx)
  refine tcons_mono (par_core q) fun vs H2 ⟨v1, v2, e, ι2, zf, zr, k⟩ => ?_
  subst e
  exact ⟨by show 2 ≤ sizeLine; decide, fun T hT => ⟨T, [v1, v2], rfl, SqT.of upd_same, rfl, v1, [v2], rfl, v2, [], rfl, rfl, k ι2 _ (Kp.alloc hT) (zr.alloc hT)⟩⟩
end
end DE
set_option Elab.async false
set_option linter.all false
set_option maxRecDepth 100000
set_option maxHeartbeats 8000000
namespace DE
open PySem PySem.Spec L2
mutual
/-- targets -/
inductive Gt where
  | nm (i : Nat)
  | ix (a b : E)
  | tp (gs : Gts)
  | ext (sh : Scope → Expr → Option (List Expr)) (sem : List Ev → EvG) (es : Es)
inductive Gts where
  | nil
  | cons (g : Gt) (gs : Gts)
end
def Gts.len : Gts → Nat
  | .nil => 0
  | .cons _ gs => gs.len + 1
mutual
inductive S where
  | set (i : Nat) (e : E)
  | setC (i : Nat) (f : FE)
  | own (i : Nat) (f : FE)
  | ownC (i : Nat) (f : FE)
  | asg (g : Gt) (e : E)
  | par (i j : Nat) (a b : PEl)
  | exp (e : E)
  | ret (e : E)
  | ife (t : E) (a b : Ss)
  | fors (it : IE) (g : Gt) (b : Ss)
  | whil (n : Nat) (t : E) (b : Ss)
  | pass
  | brk
  | cont
  | never
  | ext (sh : List Str → Scope → Stmt → Option (List Expr)) (sem : List Ev → EvS) (es : Es)
inductive Ss where
  | nil
  | cons (s : S) (ss : Ss)
  | never
end
mutual
def evG : Gt → EvG
  | .nm i => gSet i
  | .ix a b => gIdx (evE a) (evE b)
  | .tp gs => gTupD gs.len (evGs gs)
  | .ext _ sem es => sem (evL es)
def evGs : Gts → EvGs
  | .nil => gsNil
  | .cons g gs => gsCons (evG g) (evGs gs)
end
mutual
def evS : S → EvS
  | .set i e => sAsg (evE e) (gSet i)
  | .setC i f => sSetF i (evF f)
  | .own i f => sOwn i (evF f)
  | .ownC i f => sOwn i (evF f)
  | .asg g e => sAsg (evE e) (evG g)
  | .par i j a b => sPar2 i j (evP a) (evP b)
  | .exp e => sExpr (evE e)
  | .ret e => sRet (evE e)
  | .ife t a b => sIf (evT t) (evSs a) (evSs b)
  | .fors it g b => sFor (evI it) (evG g) (evSs b)
  | .whil n t b => whileL (evT t) (evSs b) n
  | .pass => sNx
  | .brk => fun z => some (.bk, z)
  | .cont => fun z => some (.ct, z)
  | .never => fun _ => none
  | .ext _ sem es => sem (evL es)
def evSs : Ss → EvS
  | .nil => sNx
  | .cons s ss => sSeq (evS s) (evSs ss)
  | .never => fun _ => none
end
def locF (sc : Scope) (x : Str) : Bool := match sc.names.lookup x with
  | some .local => true
  | some .cell => true
  | _ => false
theorem locF_ok {sc : Scope} {x : Str} (h : locF sc x = true) : Loc sc x := by
  unfold locF at h
  split at h
  · exact .inl (by assumption)
  · exact .inr (by assumption)
  · cases h
def isLc (sc : Scope) (x : Str) : Bool := match sc.names.lookup x with
  | some .local => true
  | _ => false
theorem isLc_ok {sc : Scope} {x : Str} (h : isLc sc x = true) : sc.names.lookup x = some .local := by
  unfold isLc at h
  split at h
  · assumption
  · cases h
/-- whether a comprehension and its name are swapped -/
def swB (sc : Scope) (v : Expr) (x : Str) (l : Nat) : Bool := match v with
  | .ListComp _ _ s p => isLc sc x && (l == p.line) && !(s.names.any fun (n, k) => n == x && (k == .local || k == .cell))
  | _ => false
def compOrNot : Expr → Bool
  | .SetComp _ _ _ _ => false
  | .DictComp _ _ _ _ _ => false
  | _ => true
theorem blockF {env : Env} (h : env.scope.kind = .function) : env.blockKind = .function := by unfold Env.blockKind; rw [h]; rfl
theorem isLc_eq (sc : Scope) (x : Str) : (sc.names.lookup x == some .local) = isLc sc x := by
  unfold isLc
  cases h : sc.names.lookup x with
  | none => rfl
  | some k => cases k <;> rfl
theorem swB_ok {env : Env} {v : Expr} {x : Str} {pp : Pos} {l : Nat} (hk : env.scope.kind = .function) (hc : compOrNot v = true) : swapsWith v (some (.Name x pp)) l env = pure (swB env.scope v x pp.line) := by
  cases v with
  | ListComp elt gs s p =>
    have e : swapsWith (.ListComp elt gs s p) (some (.Name x pp)) l env = pure (env.blockKind == .function && env.kindOf x == some .local && pp.line == p.line && !(s.names.any fun (n, k) => n == x && (k == .local || k == .cell))) := rfl
    rw [e, blockF hk]
    show pure (true && (env.scope.names.lookup x == some .local) && pp.line == p.line && !_) = _
    rw [isLc_eq]
    simp only [swB, Bool.true_and]
  | SetComp _ _ _ _ => cases hc
  | DictComp _ _ _ _ _ => cases hc
  | _ => rfl
def notTup : Expr → Bool
  | .Tuple _ _ _ => false
  | _ => true
theorem noSw_ok {t v : Expr} {env : Env} (h : notTup v = true) : swappedStores [t] v env = pure none := by
  unfold swappedStores
  cases v <;> first | (cases t <;> rfl) | cases h
/-- two plain names at once -/
def swP (sc : Scope) (x y : Str) (px py : Pos) (a b : Expr) : Bool := isLc sc x && isLc sc y && (py.line == px.line) && decide (x ≠ y) && notStar a && notStar b && !([a, b].all (foldedForSure 8)) && !([a, b].all (constantsAlone 8))
/-- .. of which not both are plain -/
def swN (sc : Scope) (x y : Str) (a b : Expr) : Bool := (!isLc sc x || !isLc sc y) && locF sc x && locF sc y && notStar a && notStar b
theorem swN_ok {env : Env} {x y : Str} {px py pt pt2 : Pos} {kt k2 : Nat} {a b : Expr} (h : swN env.scope x y a b = true) : swappedStores [.Tuple [.Name x px, .Name y py] kt pt] (.Tuple [a, b] k2 pt2) env = pure none := by
  unfold swN at h
  simp only [Bool.and_eq_true] at h
  obtain ⟨⟨⟨⟨h1, _⟩, _⟩, h5⟩, h6⟩ := h
  have hk : ∀ x, (env.kindOf x == some .local) = isLc env.scope x := fun x => isLc_eq env.scope x
  unfold swappedStores
  dsimp only
  split
  · rfl
  · rw [if_neg (by
      intro hh
      rw [List.any_eq_true] at hh
      obtain ⟨e, he, hm⟩ := hh
      simp only [List.mem_cons, List.not_mem_nil, or_false] at he
      have hst : notStar e = true := by rcases he with rfl | rfl <;> assumption
      cases e <;> first | (dsimp only at hm; cases hm; done) | (cases hst; done))]
    rw [if_pos]
    rw [Bool.or_eq_true]
    left
    rw [bne_iff_ne]
    rw [Bool.or_eq_true, Bool.not_eq_true', Bool.not_eq_true'] at h1
    rcases h1 with h1 | h1
    · simp only [List.filterMap_cons, hk, h1, Bool.false_and, Bool.false_eq_true, if_false, List.filterMap_nil]
      split <;> simp
    · simp only [List.filterMap_cons, hk, h1, Bool.false_and, Bool.false_eq_true, if_false, List.filterMap_nil]
      split <;> simp
theorem swP_ok {env : Env} {x y : Str} {px py pt pt2 : Pos} {kt k2 : Nat} {a b : Expr} (hk : env.scope.kind = .function) (h : swP env.scope x y px py a b = true) : swappedStores [.Tuple [.Name x px, .Name y py] kt pt] (.Tuple [a, b] k2 pt2) env = pure (some [x, y]) := by
  unfold swP at h
  simp only [Bool.and_eq_true, decide_eq_true_eq, Bool.not_eq_true'] at h
  obtain ⟨⟨⟨⟨⟨⟨⟨h1, h2⟩, h3⟩, h4⟩, h5⟩, h6⟩, h7⟩, h8⟩ := h
  have k1 : env.kindOf x = some .local := isLc_ok h1
  have k2' : env.kindOf y = some .local := isLc_ok h2
  have er : [x, y].eraseDups.length = 2 := by
    have : (y == x) = false := by simp; exact fun e => h4 e.symm
    simp [List.eraseDups_cons, this]
  unfold swappedStores
  dsimp only
  rw [if_neg (by simp [blockF hk]), if_neg (by
    intro hh
    rw [List.any_eq_true] at hh
    obtain ⟨e, he, hm⟩ := hh
    simp only [List.mem_cons, List.not_mem_nil, or_false] at he
    have hst : notStar e = true := by rcases he with rfl | rfl <;> assumption
    cases e <;> first | (dsimp only at hm; cases hm; done) | (cases hst; done))]
  generalize hnames : List.filterMap _ [Expr.Name x px, Expr.Name y py] = names
  have hn : names = [x, y] := by
    rw [← hnames]
    simp [k1, k2', eq_of_beq h3, Expr.pos]
  subst hn
  rw [if_neg (by rw [er]; exact Bool.false_ne_true), if_neg (by rw [h7]; decide), if_neg (by rw [h8]; decide)]
mutual
def chkG (N : List Str) (sc : Scope) : Gt → Expr → Bool
  | .nm i, e => (match e with
    | .Name x _ => decide (N[i]? = some x) && locF sc x
    | _ => false)
  | .ix a b, e => (match e with
    | .Subscript o i _ => notSlice i && chkE N sc a o && chkE N sc b i
    | _ => false)
  | .tp gs, e => (match e with
    | .Tuple es _ _ => chkGs N sc gs es
    | _ => false)
  | .ext sh _ es, e => (match sh sc e with
    | some vs => chkL N sc es vs
    | none => false)
def chkGs (N : List Str) (sc : Scope) : Gts → List Expr → Bool
  | .nil, es => (match es with
    | [] => true
    | _ => false)
  | .cons g gs, es => (match es with
    | e :: r => notStar e && chkG N sc g e && chkGs N sc gs r
    | _ => false)
end
def chkP (N : List Str) (sc : Scope) : PEl → Expr → Bool
  | .v a, e => chkE N sc a e
  | .o f, e => chkF N sc f e
mutual
def chkS (N : List Str) (sc : Scope) : S → Stmt → Bool
  | .set i a, st => (match st with
    | .Assign [.Name x p] v _ => decide (N[i]? = some x) && locF sc x && compOrNot v && !(swB sc v x p.line) && chkE N sc a v
    | _ => false)
  | .setC i f, st => (match st, f with
    | .Assign [.Name x p] v _, .comp _ _ _ _ _ => decide (N[i]? = some x) && isLc sc x && compOrNot v && swB sc v x p.line && chkF N sc f v
    | .Assign [.Name x p] v _, .comp2 _ _ _ _ _ _ _ _ => decide (N[i]? = some x) && isLc sc x && compOrNot v && swB sc v x p.line && chkF N sc f v
    | _, _ => false)
  | .own i f, st => (match st with
    | .Assign [.Name x p] v _ => decide (N[i]? = some x) && locF sc x && compOrNot v && !(swB sc v x p.line) && chkF N sc f v
    | _ => false)
  | .ownC i f, st => (match st, f with
    | .Assign [.Name x p] v _, .comp _ _ _ _ _ => decide (N[i]? = some x) && isLc sc x && compOrNot v && swB sc v x p.line && chkF N sc f v
    | .Assign [.Name x p] v _, .comp2 _ _ _ _ _ _ _ _ => decide (N[i]? = some x) && isLc sc x && compOrNot v && swB sc v x p.line && chkF N sc f v
    | _, _ => false)
  | .asg g a, st => (match st with
    | .Assign [t] v _ => notStar t && notTup v && notComp v && chkG N sc g t && chkE N sc a v
    | _ => false)
  | .par i j a b, st => (match st with
    | .Assign [.Tuple [.Name x px, .Name y py] _ _] (.Tuple [v, w] _ _) _ => decide (N[i]? = some x) && decide (N[j]? = some y) && decide (i ≠ j) && (swP sc x y px py v w || swN sc x y v w) && chkP N sc a v && chkP N sc b w
    | _ => false)
  | .exp a, st => (match st with
    | .Expr v _ => notComp v && chkE N sc a v
    | _ => false)
  | .ret a, st => (match st with
    | .Return (some v) _ => chkE N sc a v
    | _ => false)
  | .ife t a b, st => (match st with
    | .If c xs ys _ => chkE N sc t c && chkSs N sc a xs && chkSs N sc b ys
    | _ => false)
  | .fors it g b, st => (match st with
    | .For tg iter body [] _ => chkI N sc it iter tg && notSet iter && chkG N sc g tg && chkSs N sc b body
    | _ => false)
  | .whil _ t b, st => (match st with
    | .While c body [] _ => chkE N sc t c && chkSs N sc b body
    | _ => false)
  | .pass, st => (match st with
    | .Pass _ => true
    | _ => false)
  | .brk, st => (match st with
    | .Break _ => true
    | _ => false)
  | .cont, st => (match st with
    | .Continue _ => true
    | _ => false)
  | .never, _ => true
  | .ext sh _ es, st => (match sh N sc st with
    | some vs => chkL N sc es vs
    | none => false)
def chkSs (N : List Str) (sc : Scope) : Ss → List Stmt → Bool
  | .nil, st => (match st with
    | [] => true
    | _ => false)
  | .cons s ss, st => (match st with
    | x :: r => chkS N sc s x && chkSs N sc ss r
    | _ => false)
  | .never, _ => true
end
def ExtG (G : GX) (lv : Nat) (sh : Scope → Expr → Option (List Expr)) (sem : List Ev → EvG) : Prop := ∀ (N : List Str) (sc : Scope) (X : Cx), Fits G lv N sc X → (∀ x, X.fn x = true) → ∀ (e : Expr) (vs : List Expr), sh sc e = some vs → ∀ (fs : List Ev), (∀ B, PEL X G.W B vs fs) → ∀ B, PG X e (tgv G.W B (sem fs))
def ExtS (G : GX) (lv : Nat) (sh : List Str → Scope → Stmt → Option (List Expr)) (sem : List Ev → EvS) : Prop := ∀ (N : List Str) (sc : Scope) (X : Cx), Fits G lv N sc X → sc.kind = .function → (∀ x, X.fn x = true) → ∀ (e : Stmt) (vs : List Expr), sh N sc e = some vs → ∀ (fs : List Ev), (∀ B, PEL X G.W B vs fs) → ∀ B, PS X e (tss G.W B (sem fs))
mutual
def needG (G : GX) (lv : Nat) : Gt → Prop
  | .nm _ => True
  | .ix a b => needE G lv a ∧ needE G lv b
  | .tp gs => needGs G lv gs
  | .ext sh sem es => ExtG G lv sh sem ∧ needEs G lv es
def needGs (G : GX) (lv : Nat) : Gts → Prop
  | .nil => True
  | .cons g gs => needG G lv g ∧ needGs G lv gs
end
def needP (G : GX) (lv : Nat) : PEl → Prop
  | .v a => needE G lv a
  | .o f => needF G lv f
mutual
def needS (G : GX) (lv : Nat) : S → Prop
  | .set _ a => needE G lv a
  | .setC _ f => needF G lv f
  | .own _ f => needF G lv f
  | .ownC _ f => needF G lv f
  | .asg g a => needG G lv g ∧ needE G lv a
  | .par _ _ a b => needP G lv a ∧ needP G lv b
  | .exp a => needE G lv a
  | .ret a => needE G lv a
  | .ife t a b => needE G lv t ∧ needSs G lv a ∧ needSs G lv b
  | .fors it g b => needI G lv it ∧ needG G lv g ∧ needSs G lv b
  | .whil _ t b => needE G lv t ∧ needSs G lv b
  | .pass => True
  | .brk => True
  | .cont => True
  | .never => True
  | .ext sh sem es => ExtS G lv sh sem ∧ needEs G lv es
def needSs (G : GX) (lv : Nat) : Ss → Prop
  | .nil => True
  | .cons s ss => needS G lv s ∧ needSs G lv ss
  | .never => True
end
theorem gs_len {N : List Str} {sc : Scope} {env : Env} : ∀ {gs : Gts} {es : List Expr}, chkGs N sc gs es = true → (assignEach es env).length = gs.len ∧ (assignEach es env).findIdx? (·.1) = none
  | .nil, es, h => by
    unfold chkGs at h
    split at h
    · exact ⟨rfl, rfl⟩
    · cases h
  | .cons g gs, es, h => by
    unfold chkGs at h
    split at h
    · rename_i e r
      simp only [Bool.and_eq_true] at h
      obtain ⟨a, b⟩ := gs_len (env := env) h.2
      have hs : assignEach (e :: r) env = (false, assign e env) :: assignEach r env := by
        have h1 := h.1.1
        cases e <;> first | rfl | cases h1
      rw [hs]
      refine ⟨by show (assignEach r env).length + 1 = _; rw [a]; rfl, ?_⟩
      rw [List.findIdx?_cons]
      simp [b]
    · cases h
mutual
theorem sG {G : GX} {lv : Nat} : ∀ (ir : Gt) {N : List Str} {sc : Scope} {e : Expr}, chkG N sc ir e = true → needG G lv ir → ∀ {X : Cx}, Fits G lv N sc X → (∀ x, X.fn x = true) → ∀ B : Bs, PG X e (tgv G.W B (evG ir))
  | .nm i, N, sc, e, h, n, X, fx, hf, B => by
    unfold chkG at h
    split at h
    · simp only [Bool.and_eq_true, decide_eq_true_eq] at h
      exact pg_nameD (by rw [fx.n]; exact fx.nd) (by rw [fx.n]; exact h.1) (by rw [fx.sc]; exact locF_ok h.2) (.inl (hf _))
    · cases h
  | .ix a b, N, sc, e, h, n, X, fx, hf, B => by
    unfold chkG at h
    split at h
    · rename_i o i p
      simp only [Bool.and_eq_true] at h
      unfold needG at n
      refine pg_subD (sE a h.1.2 n.1 fx B) (sE b h.2 n.2 fx B) fun v => ?_
      have h1 := h.1.1
      cases i <;> first | rfl | cases h1
    · cases h
  | .tp gs, N, sc, e, h, n, X, fx, hf, B => by
    unfold chkG at h
    split at h
    · unfold needG at n
      obtain ⟨a, b⟩ := gs_len (env := X.env) h
      exact pg_tupD fx.k fx.calm (sGs gs h n fx hf B) a b
    · cases h
  | .ext sh sem es, N, sc, e, h, n, X, fx, hf, B => by
    unfold chkG at h
    split at h
    · rename_i vs hs
      unfold needG at n
      exact n.1 N sc X fx hf e vs hs _ (sL es h n.2 fx) B
    · cases h
theorem sGs {G : GX} {lv : Nat} : ∀ (ir : Gts) {N : List Str} {sc : Scope} {es : List Expr}, chkGs N sc ir es = true → needGs G lv ir → ∀ {X : Cx}, Fits G lv N sc X → (∀ x, X.fn x = true) → ∀ B : Bs, PGs X es (tgvs G.W B (evGs ir))
  | .nil, N, sc, es, h, n, X, fx, hf, B => by
    unfold chkGs at h
    split at h
    · exact pgs_nilD
    · cases h
  | .cons g gs, N, sc, es, h, n, X, fx, hf, B => by
    unfold chkGs at h
    split at h
    · rename_i e r
      simp only [Bool.and_eq_true] at h
      unfold needGs at n
      refine pgs_consD (sG g h.1.2 n.1 fx hf B) (sGs gs h.2 n.2 fx hf B) ?_
      have h1 := h.1.1
      cases e <;> first | rfl | cases h1
    · cases h
end
theorem sP {G : GX} {lv : Nat} (ir : PEl) {N : List Str} {sc : Scope} {e : Expr} (h : chkP N sc ir e = true) (n : needP G lv ir) {X : Cx} (fx : Fits G lv N sc X) (B : Bs) : PE X e (tpl G.W B (evP ir)) := by
  cases ir with
  | v a => exact pe_plv (sE a h n fx B)
  | o f => exact pe_plo (sF f h n fx B)
/-- a comprehension given to a name, swapped -/
theorem s_lc {G : GX} {lv : Nat} {it : IE} {ct : CT} {t : Oe} {el : E} {own : List (Str × Nat)} {i : Nat} {N : List Str} {sc : Scope} {x : Str} {p pos : Pos} {v : Expr} {X : Cx} (fx : Fits G lv N sc X) (hk : sc.kind = .function) (h1 : N[i]? = some x) (h2 : isLc sc x = true) (hc : compOrNot v = true) (h3 : swB sc v x p.line = true) (h4 : chkF N sc (.comp it ct t el own) v = true) (n : needF G lv (.comp it ct t el own)) (B : Bs) :
    PS X (.Assign [.Name x p] v pos) (tss G.W B (sOwn i (evF (.comp it ct t el own)))) := by
  have hsw : swapsWith v (some (.Name x p)) pos.line X.env = pure true := by rw [swB_ok (by rw [fx.sc]; exact hk) hc, fx.sc, h3]
  unfold chkF at h4
  split at h4
  · rename_i elt tg iter ifs scope cpos
    simp only [Bool.and_eq_true] at h4
    obtain ⟨⟨⟨⟨⟨⟨g1, g2⟩, g3⟩, g4⟩, g5⟩, g6⟩, g7⟩ := h4
    unfold needF at n
    have bo : BlkOk X.N X.env.scope scope own := by rw [fx.n, fx.sc]; exact blkOk_by g1
    refine ps_lcOwnD fx.k fx.calm (by rw [fx.n]; exact fx.nd) (by rw [fx.n]; exact h1) (by rw [fx.sc]; exact isLc_ok h2) hsw (sI it g2 n.1 fx B) bo (fun s H C cl fp => ?_) (fun i hi => ?_) (fun s H C cl fp B => ?_) (fun s H C cl fp B => ?_) (fold_ok g3)
    · have f2 := fx.blk (scope := scope) s H C cl fp
      exact ct_ok f2.calm f2.n f2.nd f2.sc (fun x q => q) g4
    · rw [List.all_eq_true] at g5
      simpa using g5 i hi
    · exact sOT t g6 n.2.1 (fx.blk (scope := scope) s H C cl fp) B
    · exact sE el g7 n.2.2 (fx.blk (scope := scope) s H C cl fp) B
  · cases h4
theorem s_lc2 {G : GX} {lv : Nat} {it it1 : IE} {ct ct1 : CT} {t t1 : Oe} {el : E} {own : List (Str × Nat)} {i : Nat} {N : List Str} {sc : Scope} {x : Str} {p pos : Pos} {v : Expr} {X : Cx} (fx : Fits G lv N sc X) (hk : sc.kind = .function) (h1 : N[i]? = some x) (h2 : isLc sc x = true) (hc : compOrNot v = true) (h3 : swB sc v x p.line = true) (h4 : chkF N sc (.comp2 it ct t it1 ct1 t1 el own) v = true) (n : needF G lv (.comp2 it ct t it1 ct1 t1 el own)) (B : Bs) :
    PS X (.Assign [.Name x p] v pos) (tss G.W B (sOwn i (evF (.comp2 it ct t it1 ct1 t1 el own)))) := by
  have hsw : swapsWith v (some (.Name x p)) pos.line X.env = pure true := by rw [swB_ok (by rw [fx.sc]; exact hk) hc, fx.sc, h3]
  unfold chkF at h4
  split at h4
  · rename_i elt tg iter ifs tg1 iter1 ifs1 scope cpos
    simp only [Bool.and_eq_true] at h4
    obtain ⟨⟨⟨⟨⟨⟨⟨⟨⟨⟨⟨g1, g2⟩, g3⟩, g4⟩, g5⟩, g6⟩, g7⟩, g8⟩, g9⟩, g10⟩, g11⟩, g12⟩ := h4
    unfold needF at n
    have bo : BlkOk X.N X.env.scope scope own := by rw [fx.n, fx.sc]; exact blkOk_by g1
    refine ps_lcOwn2D fx.k fx.calm (by rw [fx.n]; exact fx.nd) (by rw [fx.n]; exact h1) (by rw [fx.sc]; exact isLc_ok h2) hsw (sI it g2 n.1 fx B) bo (fun s H C cl fp => ?_) (fun i hi => ?_) (fun s H C cl fp B => ?_) (fun s H C cl fp B => ?_) (fun s H C cl fp => ?_) (fun i hi => ?_) (fun s H C cl fp B => ?_) (fun s H C cl fp B => ?_) (fold_ok g3) (fun env => fold_ok g9)
    · have f2 := fx.blk (scope := scope) s H C cl fp
      exact ct_ok f2.calm f2.n f2.nd f2.sc (fun x q => q) g4
    · rw [List.all_eq_true] at g5
      simpa using g5 i hi
    · exact sOT t g6 n.2.1 (fx.blk (scope := scope) s H C cl fp) B
    · exact sI it1 g8 n.2.2.1 (fx.blk (scope := scope) s H C cl fp) B
    · have f2 := fx.blk (scope := scope) s H C cl fp
      exact ct_ok f2.calm f2.n f2.nd f2.sc (fun x q => q) g10
    · rw [List.all_eq_true] at g11
      simpa using g11 i hi
    · exact sOT t1 g12 n.2.2.2.1 (fx.blk (scope := scope) s H C cl fp) B
    · exact sE el g7 n.2.2.2.2 (fx.blk (scope := scope) s H C cl fp) B
  · cases h4
mutual
theorem sS {G : GX} {lv : Nat} : ∀ (ir : S) {N : List Str} {sc : Scope} {st : Stmt}, chkS N sc ir st = true → needS G lv ir → ∀ {X : Cx}, Fits G lv N sc X → sc.kind = .function → (∀ x, X.fn x = true) → ∀ B : Bs, PS X st (tss G.W B (evS ir))
  | .set i a, N, sc, st, h, n, X, fx, hk, hf, B => by
    unfold chkS at h
    split at h
    · simp only [Bool.and_eq_true, decide_eq_true_eq, Bool.not_eq_true'] at h
      obtain ⟨⟨⟨⟨h1, h2⟩, h3⟩, h4⟩, h5⟩ := h
      unfold needS at n
      exact ps_setD (by rw [fx.n]; exact fx.nd) (by rw [fx.n]; exact h1) (by rw [fx.sc]; exact locF_ok h2) (sE a h5 n fx B) (by rw [swB_ok (by rw [fx.sc]; exact hk) h3, fx.sc, h4]) (.inl (hf _))
    · cases h
  | .setC i f, N, sc, st, h, n, X, fx, hk, hf, B => by
    unfold chkS at h
    split at h
    · simp only [Bool.and_eq_true, decide_eq_true_eq] at h
      obtain ⟨⟨⟨⟨h1, h2⟩, h3⟩, h4⟩, h5⟩ := h
      unfold needS at n
      exact ps_frzD (s_lc fx hk h1 h2 h3 h4 h5 n B)
    · simp only [Bool.and_eq_true, decide_eq_true_eq] at h
      obtain ⟨⟨⟨⟨h1, h2⟩, h3⟩, h4⟩, h5⟩ := h
      unfold needS at n
      exact ps_frzD (s_lc2 fx hk h1 h2 h3 h4 h5 n B)
    · cases h
  | .own i f, N, sc, st, h, n, X, fx, hk, hf, B => by
    unfold chkS at h
    split at h
    · simp only [Bool.and_eq_true, decide_eq_true_eq, Bool.not_eq_true'] at h
      obtain ⟨⟨⟨⟨h1, h2⟩, h3⟩, h4⟩, h5⟩ := h
      unfold needS at n
      exact ps_ownD (by rw [fx.n]; exact fx.nd) (by rw [fx.n]; exact h1) (by rw [fx.sc]; exact locF_ok h2) (sF f h5 n fx B) (by rw [swB_ok (by rw [fx.sc]; exact hk) h3, fx.sc, h4]) (.inl (hf _))
    · cases h
  | .ownC i f, N, sc, st, h, n, X, fx, hk, hf, B => by
    unfold chkS at h
    split at h
    · simp only [Bool.and_eq_true, decide_eq_true_eq] at h
      obtain ⟨⟨⟨⟨h1, h2⟩, h3⟩, h4⟩, h5⟩ := h
      unfold needS at n
      exact s_lc fx hk h1 h2 h3 h4 h5 n B
    · simp only [Bool.and_eq_true, decide_eq_true_eq] at h
      obtain ⟨⟨⟨⟨h1, h2⟩, h3⟩, h4⟩, h5⟩ := h
      unfold needS at n
      exact s_lc2 fx hk h1 h2 h3 h4 h5 n B
    · cases h
  | .asg g a, N, sc, st, h, n, X, fx, hk, hf, B => by
    unfold chkS at h
    split at h
    · rename_i t v p
      simp only [Bool.and_eq_true] at h
      obtain ⟨⟨⟨⟨h1, h2⟩, h3⟩, h4⟩, h5⟩ := h
      unfold needS at n
      refine ps_asgD (sE a h5 n.2 fx B) (sG g h4 n.1 fx hf B) (swap_ok h3) (noSw_ok h2) ?_
      cases t <;> first | rfl | cases h1
    · cases h
  | .par i j a b, N, sc, st, h, n, X, fx, hk, hf, B => by
    unfold chkS at h
    split at h
    · rename_i x px y py _ _ v w _ _ _
      simp only [Bool.and_eq_true, decide_eq_true_eq] at h
      obtain ⟨⟨⟨⟨⟨h1, h2⟩, h3⟩, h4⟩, h5⟩, h6⟩ := h
      unfold needS at n
      rw [Bool.or_eq_true] at h4
      rcases h4 with h4 | h4
      case inr =>
        have h4' := h4
        unfold swN at h4'
        simp only [Bool.and_eq_true] at h4'
        obtain ⟨⟨⟨⟨_, l1⟩, l2⟩, s1⟩, s2⟩ := h4'
        exact ps_par2T fx.calm (by rw [fx.n]; exact fx.nd) (by rw [fx.n]; exact h1) (by rw [fx.n]; exact h2) (by rw [fx.sc]; exact locF_ok l1) (by rw [fx.sc]; exact locF_ok l2) hf (fun B => sP a h5 n.1 fx B) (fun B => sP b h6 n.2 fx B) (star_ok s1) (star_ok s2) (swN_ok (by rw [fx.sc]; exact h4)) rfl
      have h4' := h4
      unfold swP at h4'
      simp only [Bool.and_eq_true] at h4'
      obtain ⟨⟨⟨⟨⟨⟨⟨l1, l2⟩, _⟩, _⟩, s1⟩, s2⟩, _⟩, _⟩ := h4'
      exact ps_par2D fx.calm (by rw [fx.n]; exact fx.nd) (by rw [fx.n]; exact h1) (by rw [fx.n]; exact h2) h3 (by rw [fx.sc]; exact isLc_ok l1) (by rw [fx.sc]; exact isLc_ok l2) (fun B => sP a h5 n.1 fx B) (fun B => sP b h6 n.2 fx B) (star_ok s1) (star_ok s2) (swP_ok (by rw [fx.sc]; exact hk) (by rw [fx.sc]; exact h4)) rfl
    · cases h
  | .exp a, N, sc, st, h, n, X, fx, hk, hf, B => by
    unfold chkS at h
    split at h
    · simp only [Bool.and_eq_true] at h
      unfold needS at n
      exact ps_exprD (sE a h.2 n fx B) (swap_ok h.1)
    · cases h
  | .ret a, N, sc, st, h, n, X, fx, hk, hf, B => by
    unfold chkS at h
    split at h
    · unfold needS at n
      exact ps_retD (sE a h n fx B)
    · cases h
  | .ife t a b, N, sc, st, h, n, X, fx, hk, hf, B => by
    unfold chkS at h
    split at h
    · simp only [Bool.and_eq_true] at h
      unfold needS at n
      exact ps_ifD (sT t h.1.1 n.1 fx B) (sSs a h.1.2 n.2.1 fx hk hf B) (sSs b h.2 n.2.2 fx hk hf B)
    · cases h
  | .fors it g b, N, sc, st, h, n, X, fx, hk, hf, B => by
    unfold chkS at h
    split at h
    · simp only [Bool.and_eq_true] at h
      obtain ⟨⟨⟨h1, h2⟩, h3⟩, h4⟩ := h
      unfold needS at n
      exact ps_forD (by rw [fx.nox]; exact PassesOwn.never) fx.calm (sI it h1 n.1 fx B) (sG g h3 n.2.1 fx hf B) (sSs b h4 n.2.2 fx hk hf B) (fold_ok h2)
    · cases h
  | .whil m t b, N, sc, st, h, n, X, fx, hk, hf, B => by
    unfold chkS at h
    split at h
    · simp only [Bool.and_eq_true] at h
      unfold needS at n
      exact ps_whileD (by rw [fx.nox]; exact PassesOwn.never) (sT t h.1 n.1 fx B) (sSs b h.2 n.2 fx hk hf B)
    · cases h
  | .pass, N, sc, st, h, n, X, fx, hk, hf, B => by
    unfold chkS at h
    split at h
    · exact ps_passD
    · cases h
  | .brk, N, sc, st, h, n, X, fx, hk, hf, B => by
    unfold chkS at h
    split at h
    · exact ps_breakD
    · cases h
  | .cont, N, sc, st, h, n, X, fx, hk, hf, B => by
    unfold chkS at h
    split at h
    · exact ps_contD
    · cases h
  | .never, N, sc, st, h, n, X, fx, hk, hf, B => ps_neverD
  | .ext sh sem es, N, sc, st, h, n, X, fx, hk, hf, B => by
    unfold chkS at h
    split at h
    · rename_i vs hs
      unfold needS at n
      exact n.1 N sc X fx hk hf st vs hs _ (sL es h n.2 fx) B
    · cases h
theorem sSs {G : GX} {lv : Nat} : ∀ (ir : Ss) {N : List Str} {sc : Scope} {st : List Stmt}, chkSs N sc ir st = true → needSs G lv ir → ∀ {X : Cx}, Fits G lv N sc X → sc.kind = .function → (∀ x, X.fn x = true) → ∀ B : Bs, PSs X st (tss G.W B (evSs ir))
  | .nil, N, sc, st, h, n, X, fx, hk, hf, B => by
    unfold chkSs at h
    split at h
    · exact ss_nilD
    · cases h
  | .cons s ss, N, sc, st, h, n, X, fx, hk, hf, B => by
    unfold chkSs at h
    split at h
    · simp only [Bool.and_eq_true] at h
      unfold needSs at n
      exact ss_consD (sS s h.1 n.1 fx hk hf B) (sSs ss h.2 n.2 fx hk hf B)
    · cases h
  | .never, N, sc, st, h, n, X, fx, hk, hf, B => pss_neverD
end
def toDV : D → DV
  | .brw ds => .brw ds
  | d => .imm d
end DE
set_option Elab.async false
set_option linter.all false
set_option maxRecDepth 100000
set_option maxHeartbeats 4000000
namespace DE
open PySem PySem.Spec L2
end DE
set_option Elab.async false
set_option linter.all false
set_option maxRecDepth 100000
set_option maxHeartbeats 4000000
namespace DE
open PySem PySem.Spec L2
mutual
def toPy : D → PyData
  | .non => .none
  | .bl b => .bool b
  | .int i => .int i
  | .str s => .str (SX.S s)
  | .lst ds => .list (toPyL ds)
  | .tup ds => .tuple (toPyL ds)
  | .itp ns => .tuple (ns.map PyData.int)
  | _ => .none
def toPyL : List D → List PyData
  | [] => []
  | d :: ds => toPy d :: toPyL ds
end
mutual
def isD : D → Bool
  | .non => true
  | .bl _ => true
  | .int _ => true
  | .str _ => true
  | .lst ds => isDL ds
  | .tup ds => isDL ds
  | .itp _ => true
  | _ => false
def isDL : List D → Bool
  | [] => true
  | d :: ds => isD d && isDL ds
end
/-- data of depth at most n -/
def dpt : Nat → D → Bool
  | _, .non => true
  | _, .bl _ => true
  | _, .int _ => true
  | _, .str _ => true
  | n + 1, .lst ds => ds.all (dpt n)
  | n + 1, .tup ds => ds.all (dpt n)
  | _ + 1, .itp _ => true
  | _, _ => false
/-- data that can be compared -/
def shp (d : D) : Bool := dpt 32 d
end DE
set_option Elab.async false
set_option linter.all false
set_option maxRecDepth 100000
set_option maxHeartbeats 4000000
namespace DE
open PySem PySem.Spec L2
def ixD : D → D → Option D
  | .lst ds, .int i => (ixN ds.length i).bind fun j => ds[j]?
  | .tup ds, .int i => (ixN ds.length i).bind fun j => ds[j]?
  | .str s, .int i => (ixN s.length i).bind fun j => (s[j]?).map fun c => .str [c]
  | _, _ => none
def cutL {α : Type} (xs : List α) (lo hi : Option Int) : List α := (xs.drop (HT.sIx xs.length 0 lo)).take (HT.sIx xs.length xs.length hi - HT.sIx xs.length 0 lo)
def slD : D → Option Int → Option Int → Option D
  | .lst ds, lo, hi => some (.lst (cutL ds lo hi))
  | .tup ds, lo, hi => some (.tup (cutL ds lo hi))
  | .str s, lo, none => (match lo with
    | some i => if 0 ≤ i then some (.str (s.drop i.toNat)) else none
    | none => none)
  | .str s, none, some i => if 0 ≤ i then some (.str (s.take i.toNat)) else none
  | _, _, _ => none
end DE
set_option Elab.async false
set_option linter.all false
set_option maxRecDepth 100000
set_option maxHeartbeats 4000000
namespace DE
open PySem PySem.Spec L2
/-- a function of one, of two arguments -/
def f1 (g : D → Option D) : List D → Option D
  | [x] => g x
  | _ => none
def f2 (g : D → D → Option D) : List D → Option D
  | [x, y] => g x y
  | _ => none
def g1 (g : D → Option (List D)) : List D → Option (List D)
  | [x] => g x
  | _ => none
/-- a method of one argument -/
def m1 (f : D → D → Option D) : D → List D → Option D := fun x ds => (match ds with | [y] => f x y | _ => none)
end DE
set_option Elab.async false
set_option linter.all false
set_option maxRecDepth 100000
set_option maxHeartbeats 4000000
namespace DE
open PySem PySem.Spec L2
namespace Raw
open PyProof.Rows
end Raw
end DE
set_option Elab.async false
set_option linter.all false
set_option maxRecDepth 100000
set_option maxHeartbeats 4000000
namespace DE
open PySem PySem.Spec L2
theorem RepF.get {W : Wd} {ι : List Addr} {H : Hp} {C : Addr} {k : Nat} (inj : ∀ j, j < W.nn → W.nm j = W.nm k → j = k) : ∀ {fs : List (Nat × D)} {vs : List (Str × V)} {d : D}, RepF W ι H C fs vs → fs.lookup k = some d → ∃ v, vs.lookup (W.nm k) = some v ∧ Rep W ι H d v ∧ d.plain = true ∧ NoAttr W.K C (W.nm k)
  | [], _, _, _, e => by cases e
  | (j, x) :: fs, _, d, r, e => by
    unfold RepF at r
    obtain ⟨v, us, rfl, lt, na, p, r1, r2⟩ := r
    by_cases h : k = j
    · subst h
      have e2 : some x = some d := by rw [← e]; simp [List.lookup]
      cases e2
      exact ⟨v, by simp [List.lookup], r1, p, na⟩
    · have e2 : fs.lookup k = some d := by
        rw [← e]
        have hb : (k == j) = false := by simpa using h
        simp [List.lookup, hb]
      obtain ⟨u, h1, h2⟩ := RepF.get inj r2 e2
      have hb : (W.nm k == W.nm j) = false := by simpa using fun q => h (inj j lt q.symm).symm
      exact ⟨u, by simp [List.lookup, hb, h1], h2⟩
/-- the built-in type of data -/
def tyN : D → Option String
  | .non => some "NoneType"
  | .bl _ => some "bool"
  | .int _ => some "int"
  | .str _ => some "str"
  | .lst _ => some "list"
  | .tup _ => some "tuple"
  | .itp _ => some "tuple"
  | .ftp _ => some "tuple"
  | .dic _ => some "dict"
  | _ => none
/-- the own classes that are no exceptions, by number -/
def plC (c : Nat) : Bool := [0, 1, 2, 25, 26, 27, 28, 29].contains c
end DE
set_option Elab.async false
set_option linter.all false
set_option maxRecDepth 100000
set_option maxHeartbeats 4000000
namespace DE
open PySem PySem.Spec L2
def putD (k : Nat) (d : D) : List (Nat × D) → List (Nat × D)
  | [] => [(k, d)]
  | (j, x) :: r => if j = k then (j, d) :: r else (j, x) :: putD k d r
theorem RepF.len {W : Wd} {ι : List Addr} {H : Hp} {C : Addr} : ∀ {fs : List (Nat × D)} {vs : List (Str × V)}, RepF W ι H C fs vs → fs.length = vs.length
  | [], _, r => by unfold RepF at r; subst r; rfl
  | (j, x) :: fs, _, r => by
    unfold RepF at r
    obtain ⟨v, us, rfl, lt, na, p, r1, r2⟩ := r
    simp [r2.len]
theorem RepF.put {W : Wd} {ι : List Addr} {H : Hp} {C : Addr} {k : Nat} (hk : k < W.nn) (inj : ∀ j, j < W.nn → W.nm j = W.nm k → j = k) (na : NoAttr W.K C (W.nm k)) {d : D} {v : V} (p : d.plain = true) (rd : Rep W ι H d v) : ∀ {fs : List (Nat × D)} {vs : List (Str × V)}, RepF W ι H C fs vs → RepF W ι H C (putD k d fs) (putF (W.nm k) v vs)
  | [], _, r => by
    unfold RepF at r
    subst r
    unfold putD putF
    unfold RepF
    exact ⟨v, [], rfl, hk, na, p, rd, by unfold RepF; rfl⟩
  | (j, x) :: fs, _, r => by
    unfold RepF at r
    obtain ⟨u, us, rfl, lt, na', p', r1, r2⟩ := r
    unfold putD putF
    by_cases h : j = k
    · subst h
      rw [if_pos rfl, if_pos rfl]
      unfold RepF
      exact ⟨v, us, rfl, hk, na, p, rd, r2⟩
    · rw [if_neg h, if_neg fun q => h (inj j lt q)]
      unfold RepF
      exact ⟨u, _, rfl, lt, na', p', r1, RepF.put hk inj na p rd r2⟩
end DE
set_option Elab.async false
set_option linter.all false
set_option maxRecDepth 100000
set_option maxHeartbeats 4000000
namespace DE
open PySem PySem.Spec L2
mutual
/-- cells below n alone -/
def noh (n : Nat) : D → Bool
  | .lst ds => nohL n ds
  | .tup ds => nohL n ds
  | .ins _ fs => nohF n fs
  | .han m => Nat.blt m n
  | .brw _ => false
  | .bor _ => false
  | .non => true
  | .bl _ => true
  | .int _ => true
  | .str _ => true
  | .fn _ => true
  | .ftp _ => true
  | .itp _ => true
  | .dic kvs => nohD n kvs
  | .exc _ fs => nohF n fs
  | .clo _ _ => true
  | .clc _ _ caps => nohL n caps
def nohL (n : Nat) : List D → Bool
  | [] => true
  | d :: ds => noh n d && nohL n ds
def nohF (n : Nat) : List (Nat × D) → Bool
  | [] => true
  | (_, d) :: ds => noh n d && nohF n ds
def nohD (n : Nat) : List (Key × D) → Bool
  | [] => true
  | (_, d) :: ds => noh n d && nohD n ds
end
section
variable {W : Wd} {ι : List Addr} {x : Addr} {H : Hp}
mutual
theorem Rep.drop : ∀ (d : D) {v : V}, Rep W (ι ++ [x]) H d v → noh ι.length d = true → Rep W ι H d v
  | .non, _, r, _ => by unfold Rep at r ⊢; exact r
  | .bl _, _, r, _ => by unfold Rep at r ⊢; exact r
  | .int _, _, r, _ => by unfold Rep at r ⊢; exact r
  | .str _, _, r, _ => by unfold Rep at r ⊢; exact r
  | .fn _, _, r, _ => by unfold Rep at r ⊢; exact r
  | .ftp _, _, r, _ => by unfold Rep at r ⊢; exact r
  | .itp _, _, r, _ => by unfold Rep at r ⊢; exact r
  | .dic kvs, v, r, h => by
    unfold Rep at r ⊢
    obtain ⟨l, a, o, kv, e, f, rd⟩ := r
    exact ⟨l, a, o, kv, e, f, RepD.dropc kvs rd (by unfold noh at h; exact h)⟩
  | .exc c fs, v, r, h => by
    unfold Rep at r ⊢
    obtain ⟨a, o, C, fvs, e, hc, ha, h1, h2, h3, rf⟩ := r
    exact ⟨a, o, C, fvs, e, hc, ha, h1, h2, h3, RepF.dropc fs rf (by unfold noh at h; exact h)⟩
  | .clo _ _, _, r, _ => by unfold Rep at r ⊢; exact r
  | .clc _ _ caps, v, r, h => by
    unfold Rep at r ⊢
    obtain ⟨a, o, c, q, e, hq, ha, ho, hc, rc⟩ := r
    exact ⟨a, o, c, q, e, hq, ha, ho, hc, RepC.dropc caps rc (by unfold noh at h; exact h)⟩
  | .lst ds, v, r, h => by
    unfold Rep at r ⊢
    obtain ⟨l, a, xs, e, f, rl⟩ := r
    exact ⟨l, a, xs, e, f, RepL.dropc ds rl (by unfold noh at h; exact h)⟩
  | .tup ds, v, r, h => by
    unfold Rep at r ⊢
    obtain ⟨l, a, xs, e, f, rl⟩ := r
    exact ⟨l, a, xs, e, f, RepL.dropc ds rl (by unfold noh at h; exact h)⟩
  | .ins c fs, v, r, h => by
    unfold Rep at r ⊢
    obtain ⟨a, C, dx, fvs, e, hc, ha, n, cl, rf⟩ := r
    exact ⟨a, C, dx, fvs, e, hc, ha, fun q => n (List.mem_append_left _ q), cl, RepF.dropc fs rf (by unfold noh at h; exact h)⟩
  | .han m, v, r, h => by
    unfold Rep at r ⊢
    obtain ⟨a, ha, e⟩ := r
    have hm : m < ι.length := by
      unfold noh at h
      have := Nat.le_of_ble_eq_true h
      omega
    rw [List.getElem?_append_left hm] at ha
    exact ⟨a, ha, e⟩
  | .brw _, _, _, h => by unfold noh at h; cases h
  | .bor _, _, _, h => by unfold noh at h; cases h
theorem RepC.dropc {cs : List (Str × Addr)} : ∀ (ds : List D) {ys : List Str}, RepC W (ι ++ [x]) H cs ds ys → nohL ι.length ds = true → RepC W ι H cs ds ys
  | [], _, r, _ => by unfold RepC at r ⊢; exact r
  | d :: ds, _, r, h => by
    unfold RepC at r ⊢
    obtain ⟨y, us, c, oc, w, u, e, e1, e2, e3, e4, p, r1, r2⟩ := r
    unfold nohL at h
    rw [Bool.and_eq_true] at h
    exact ⟨y, us, c, oc, w, u, e, e1, e2, e3, e4, p, Rep.drop d r1 h.1, RepC.dropc ds r2 h.2⟩
theorem RepL.dropc : ∀ (ds : List D) {vs : List V}, RepL W (ι ++ [x]) H ds vs → nohL ι.length ds = true → RepL W ι H ds vs
  | [], _, r, _ => by unfold RepL at r ⊢; exact r
  | d :: ds, _, r, h => by
    unfold RepL at r ⊢
    obtain ⟨v, us, e, p, r1, r2⟩ := r
    unfold nohL at h
    rw [Bool.and_eq_true] at h
    exact ⟨v, us, e, p, Rep.drop d r1 h.1, RepL.dropc ds r2 h.2⟩
theorem RepD.dropc : ∀ (ds : List (Key × D)) {vs : List (Key × V)}, RepD W (ι ++ [x]) H ds vs → nohD ι.length ds = true → RepD W ι H ds vs
  | [], _, r, _ => by unfold RepD at r ⊢; exact r
  | (k, d) :: ds, _, r, h => by
    unfold RepD at r ⊢
    obtain ⟨v, us, e, p, r1, r2⟩ := r
    unfold nohD at h
    rw [Bool.and_eq_true] at h
    exact ⟨v, us, e, p, Rep.drop d r1 h.1, RepD.dropc ds r2 h.2⟩
theorem RepF.dropc {C : Addr} : ∀ (ds : List (Nat × D)) {vs : List (Str × V)}, RepF W (ι ++ [x]) H C ds vs → nohF ι.length ds = true → RepF W ι H C ds vs
  | [], _, r, _ => by unfold RepF at r ⊢; exact r
  | (k, d) :: ds, _, r, h => by
    unfold RepF at r ⊢
    obtain ⟨v, us, e, lt, na, p, r1, r2⟩ := r
    unfold nohF at h
    rw [Bool.and_eq_true] at h
    exact ⟨v, us, e, lt, na, p, Rep.drop d r1 h.1, RepF.dropc ds r2 h.2⟩
end
end
def nohM (n : Nat) : MO → Bool
  | .lst ds => nohL n ds
  | .ins _ fs => nohF n fs
  | .dT kvs => kvs.all fun kv => noh n kv.2
  | .dK kvs => kvs.all fun kv => noh n kv.2
theorem repT_drop {W : Wd} {ι : List Addr} {x : Addr} {H : Hp} {κ : Type} : ∀ {a : List (κ × D)} {b : List (κ × V)}, RepT W (ι ++ [x]) H a b → (a.all fun kv => noh ι.length kv.2) = true → RepT W ι H a b
  | _, _, .nil, _ => .nil
  | _, _, .cons h t, q => by
    rw [List.all_cons, Bool.and_eq_true] at q
    exact .cons ⟨h.1, h.2.1, Rep.drop _ h.2.2 q.1⟩ (repT_drop t q.2)
theorem MRep.drop {W : Wd} {ι : List Addr} {x : Addr} {H : Hp} {a : Addr} : ∀ {m : MO}, MRep W (ι ++ [x]) H a m → nohM ι.length m = true → MRep W ι H a m
  | .lst _, h, q => by obtain ⟨l, xs, e, r⟩ := h; exact ⟨l, xs, e, RepL.dropc _ r q⟩
  | .ins _ _, h, q => by obtain ⟨C, dx, fvs, c, e, cl, r⟩ := h; exact ⟨C, dx, fvs, c, e, cl, RepF.dropc _ r q⟩
  | .dT _, h, q => by obtain ⟨l, xs, e, r⟩ := h; exact ⟨l, xs, e, repT_drop r q⟩
  | .dK _, h, q => by obtain ⟨l, xs, e, r⟩ := h; exact ⟨l, xs, e, repT_drop r q⟩
end DE
set_option Elab.async false
set_option linter.all false
set_option maxRecDepth 100000
set_option maxHeartbeats 4000000
namespace DE
open PySem PySem.Spec L2
/-- the pairs of enumerate -/
def enumL (ds : List D) : List D := zipT (rngL 0 ds.length) ds
end DE
set_option Elab.async false
set_option linter.all false
set_option maxRecDepth 100000
set_option maxHeartbeats 4000000
namespace DE
open PySem PySem.Spec L2
end DE
set_option Elab.async false
set_option linter.all false
set_option maxRecDepth 100000
set_option maxHeartbeats 4000000
namespace DE
open PySem PySem.Spec PyProof.Rows L2
end DE
set_option Elab.async false
set_option linter.all false
set_option maxRecDepth 100000
set_option maxHeartbeats 4000000
namespace DE
open PySem PySem.Spec L2
mutual
/-- a bound of what repr writes; great ints and strange signs cost too much -/
def cost : D → Nat
  | .int i => if i.natAbs < 1000000000000 then 41 else 2000000
  | .str s => if s.all (fun c => Nat.blt c 1114112) then s.length else 2000000
  | .lst ds => costL ds
  | .tup ds => costL ds
  | .itp _ => 2000000
  | _ => 0
def costL : List D → Nat
  | [] => 0
  | d :: ds => cost d + 1 + costL ds
end
def shownL (d : D) : List Nat := (toPy d).shown.cps.toList
def reprD (d : D) : Option D := if shp d && Nat.ble (cost d) 1048576 then some (.str (shownL d)) else none
end DE
set_option Elab.async false
set_option linter.all false
set_option maxRecDepth 100000
set_option maxHeartbeats 4000000
namespace DE
open PySem PySem.Spec L2
end DE
set_option Elab.async false
set_option linter.all false
set_option maxRecDepth 100000
set_option maxHeartbeats 4000000
namespace DE
open PySem PySem.Spec L2 PyProof.Rows
end DE
set_option Elab.async false
set_option linter.all false
set_option maxRecDepth 100000
set_option maxHeartbeats 4000000
namespace DE
open PySem PySem.Spec L2
/-- the class of an instance, lasting or a cell -/
def clsOf (z : Z) : D → Option Nat
  | .ins c _ => some c
  | .han n => (match z.2[n]? with
    | some (.ins c _) => some c
    | _ => none)
  | _ => none
/-- a method of class c -/
structure Mth (P : Program) (w : World) (K : PySem.W.Frag) (mg : Str → Option Value) (base : Heap) (W : Wd) (k : Nat) (c : Nat) (m : Str) (n : Nat) (g : Fn) : Prop where
  ex : ∃ (C f : Addr) (fd : FuncData) (ps : List Str), FnG P w K mg base k f fd ps (spD W (n + 1) g) ∧ W.cls c = some C ∧ Meth K C m f ∧ Binds K fd ps []
  nm : ∀ j, j < W.nn → W.nm j ≠ m
section
variable {W : Wd} {ι τ : List Addr} {H : Hp}
mutual
theorem Rep.dropT : ∀ (d : D) {v : V}, Rep W (ι ++ τ) H d v → noh ι.length d = true → Rep W ι H d v
  | .non, _, r, _ => by unfold Rep at r ⊢; exact r
  | .bl _, _, r, _ => by unfold Rep at r ⊢; exact r
  | .int _, _, r, _ => by unfold Rep at r ⊢; exact r
  | .str _, _, r, _ => by unfold Rep at r ⊢; exact r
  | .fn _, _, r, _ => by unfold Rep at r ⊢; exact r
  | .ftp _, _, r, _ => by unfold Rep at r ⊢; exact r
  | .itp _, _, r, _ => by unfold Rep at r ⊢; exact r
  | .dic kvs, v, r, h => by
    unfold Rep at r ⊢
    obtain ⟨l, a, o, kv, e, f, rd⟩ := r
    exact ⟨l, a, o, kv, e, f, RepD.dropT kvs rd (by unfold noh at h; exact h)⟩
  | .exc c fs, v, r, h => by
    unfold Rep at r ⊢
    obtain ⟨a, o, C, fvs, e, hc, ha, h1, h2, h3, rf⟩ := r
    exact ⟨a, o, C, fvs, e, hc, ha, h1, h2, h3, RepF.dropT fs rf (by unfold noh at h; exact h)⟩
  | .clo _ _, _, r, _ => by unfold Rep at r ⊢; exact r
  | .clc _ _ caps, v, r, h => by
    unfold Rep at r ⊢
    obtain ⟨a, o, c, q, e, hq, ha, ho, hc, rc⟩ := r
    exact ⟨a, o, c, q, e, hq, ha, ho, hc, RepC.dropT caps rc (by unfold noh at h; exact h)⟩
  | .lst ds, v, r, h => by
    unfold Rep at r ⊢
    obtain ⟨l, a, xs, e, f, rl⟩ := r
    exact ⟨l, a, xs, e, f, RepL.dropT ds rl (by unfold noh at h; exact h)⟩
  | .tup ds, v, r, h => by
    unfold Rep at r ⊢
    obtain ⟨l, a, xs, e, f, rl⟩ := r
    exact ⟨l, a, xs, e, f, RepL.dropT ds rl (by unfold noh at h; exact h)⟩
  | .ins c fs, v, r, h => by
    unfold Rep at r ⊢
    obtain ⟨a, C, dx, fvs, e, hc, ha, n, cl, rf⟩ := r
    exact ⟨a, C, dx, fvs, e, hc, ha, fun q => n (List.mem_append_left _ q), cl, RepF.dropT fs rf (by unfold noh at h; exact h)⟩
  | .han m, v, r, h => by
    unfold Rep at r ⊢
    obtain ⟨a, ha, e⟩ := r
    have hm : m < ι.length := by
      unfold noh at h
      have := Nat.le_of_ble_eq_true h
      omega
    rw [List.getElem?_append_left hm] at ha
    exact ⟨a, ha, e⟩
  | .brw _, _, _, h => by unfold noh at h; cases h
  | .bor _, _, _, h => by unfold noh at h; cases h
theorem RepC.dropT {cs : List (Str × Addr)} : ∀ (ds : List D) {ys : List Str}, RepC W (ι ++ τ) H cs ds ys → nohL ι.length ds = true → RepC W ι H cs ds ys
  | [], _, r, _ => by unfold RepC at r ⊢; exact r
  | d :: ds, _, r, h => by
    unfold RepC at r ⊢
    obtain ⟨y, us, c, oc, w, u, e, e1, e2, e3, e4, p, r1, r2⟩ := r
    unfold nohL at h
    rw [Bool.and_eq_true] at h
    exact ⟨y, us, c, oc, w, u, e, e1, e2, e3, e4, p, Rep.dropT d r1 h.1, RepC.dropT ds r2 h.2⟩
theorem RepL.dropT : ∀ (ds : List D) {vs : List V}, RepL W (ι ++ τ) H ds vs → nohL ι.length ds = true → RepL W ι H ds vs
  | [], _, r, _ => by unfold RepL at r ⊢; exact r
  | d :: ds, _, r, h => by
    unfold RepL at r ⊢
    obtain ⟨v, us, e, p, r1, r2⟩ := r
    unfold nohL at h
    rw [Bool.and_eq_true] at h
    exact ⟨v, us, e, p, Rep.dropT d r1 h.1, RepL.dropT ds r2 h.2⟩
theorem RepD.dropT : ∀ (ds : List (Key × D)) {vs : List (Key × V)}, RepD W (ι ++ τ) H ds vs → nohD ι.length ds = true → RepD W ι H ds vs
  | [], _, r, _ => by unfold RepD at r ⊢; exact r
  | (k, d) :: ds, _, r, h => by
    unfold RepD at r ⊢
    obtain ⟨v, us, e, p, r1, r2⟩ := r
    unfold nohD at h
    rw [Bool.and_eq_true] at h
    exact ⟨v, us, e, p, Rep.dropT d r1 h.1, RepD.dropT ds r2 h.2⟩
theorem RepF.dropT {C : Addr} : ∀ (ds : List (Nat × D)) {vs : List (Str × V)}, RepF W (ι ++ τ) H C ds vs → nohF ι.length ds = true → RepF W ι H C ds vs
  | [], _, r, _ => by unfold RepF at r ⊢; exact r
  | (k, d) :: ds, _, r, h => by
    unfold RepF at r ⊢
    obtain ⟨v, us, e, lt, na, p, r1, r2⟩ := r
    unfold nohF at h
    rw [Bool.and_eq_true] at h
    exact ⟨v, us, e, lt, na, p, Rep.dropT d r1 h.1, RepF.dropT ds r2 h.2⟩
end
theorem repT_dropT {κ : Type} : ∀ {a : List (κ × D)} {b : List (κ × V)}, RepT W (ι ++ τ) H a b → (a.all fun kv => noh ι.length kv.2) = true → RepT W ι H a b
  | _, _, .nil, _ => .nil
  | _, _, .cons h t, q => by
    rw [List.all_cons, Bool.and_eq_true] at q
    exact .cons ⟨h.1, h.2.1, Rep.dropT _ h.2.2 q.1⟩ (repT_dropT t q.2)
theorem MRep.dropT {a : Addr} : ∀ {m : MO}, MRep W (ι ++ τ) H a m → nohM ι.length m = true → MRep W ι H a m
  | .lst _, h, q => by obtain ⟨l, xs, e, r⟩ := h; exact ⟨l, xs, e, RepL.dropT _ r q⟩
  | .ins _ _, h, q => by obtain ⟨C, dx, fvs, c, e, cl, r⟩ := h; exact ⟨C, dx, fvs, c, e, cl, RepF.dropT _ r q⟩
  | .dT _, h, q => by obtain ⟨l, xs, e, r⟩ := h; exact ⟨l, xs, e, repT_dropT r q⟩
  | .dK _, h, q => by obtain ⟨l, xs, e, r⟩ := h; exact ⟨l, xs, e, repT_dropT r q⟩
end
/-- at its end a def's new cells are dropped, where nothing that stays has them -/
def gcF (g : Fn) : Fn := fun ds S => (g ds S).bind fun r => if (noh S.length r.1 && (r.2.take S.length).all (nohM S.length)) = true ∧ S.length ≤ r.2.length then some (r.1, r.2.take S.length) else none
theorem spD_gc {W : Wd} {n : Nat} {g : Fn} (vs : List V) (H : Hp) (Q : VK) (E : XK) (h : spD W n (gcF g) vs H Q E) : spD W n g vs H Q E := by
  obtain ⟨ι, S, ds, d, S', hl, rp, st, e, k⟩ := h
  unfold gcF at e
  cases e1 : g ds S with
  | none => rw [e1] at e; cases e
  | some r =>
    rw [e1, Option.bind_some] at e
    split at e
    · rename_i hh
      cases e
      rw [Bool.and_eq_true] at hh
      obtain ⟨⟨h1, h2⟩, h3⟩ := hh
      refine ⟨ι, S, ds, r.1, r.2, hl, rp, st, e1, fun v ι' H' c st' p rv => ?_⟩
      obtain ⟨τ, ht⟩ := c.pre
      subst ht
      rw [st.len] at h1 h2
      refine k v ι H' ⟨List.prefix_refl _, fun a ha nb => absurd ha nb, c.keep⟩ ⟨st'.tb, ?_, st.nd, fun m mo b e1 e2 => ?_⟩ p (Rep.dropT _ rv h1)
      · rw [List.length_take, ← st.len]; omega
      · have hm : m < S.length := by
          have := (List.getElem?_eq_some_iff.mp e1).1
          rw [List.length_take] at this
          omega
        have hmem : mo ∈ r.2.take S.length := List.mem_of_getElem? e1
        rw [List.getElem?_take_of_lt hm] at e1
        refine (st'.at_ m mo b e1 (by rw [List.getElem?_append_left (by rw [← st.len]; exact hm)]; exact e2)).dropT ?_
        rw [List.all_eq_true] at h2
        exact h2 mo (by rw [← st.len]; exact hmem)
    · cases e
theorem FnG.gc {P : Program} {w : World} {K : PySem.W.Frag} {mg : Str → Option Value} {base : Heap} {W : Wd} {k n : Nat} {f : Addr} {fd : FuncData} {ps : List Str} {g : Fn} (F : FnG P w K mg base k f fd ps (spD W n g)) : FnG P w K mg base k f fd ps (spD W n (gcF g)) := F.imp spD_gc
end DE
set_option Elab.async false
set_option linter.all false
set_option maxRecDepth 100000
set_option maxHeartbeats 4000000
namespace DE
open PySem PySem.Spec L2
end DE
set_option Elab.async false
set_option linter.all false
set_option maxRecDepth 100000
set_option maxHeartbeats 4000000
namespace DE
open PySem PySem.Spec L2
/-- the value at a key, a key put -/
def valM {κ : Type} [DecidableEq κ] : List (κ × D) → κ → Option D
  | [], _ => none
  | p :: r, k => if p.1 = k then some p.2 else valM r k
def putM {κ : Type} [DecidableEq κ] (kvs : List (κ × D)) (k : κ) (d : D) : List (κ × D) :=
  if (kvs.any fun kv => decide (kv.1 = k)) = true then kvs.map (fun kv => if kv.1 = k then (kv.1, d) else kv) else kvs ++ [(k, d)]
section
variable {κ : Type} [DecidableEq κ] {W : Wd} {ι : List Addr} {H : Hp}
theorem RepT.len : ∀ {a : List (κ × D)} {b : List (κ × V)}, RepT W ι H a b → a.length = b.length := fun r => Paired.length r
theorem RepT.val (k : κ) : ∀ {a : List (κ × D)} {b : List (κ × V)}, RepT W ι H a b → (∀ d, valM a k = some d → ∃ v, valV b k = some v ∧ d.plain = true ∧ Rep W ι H d v) ∧ (valM a k = none → valV b k = none)
  | _, _, .nil => ⟨fun d (e : (none : Option D) = some d) => (by cases e), fun _ => rfl⟩
  | p :: a, q :: b, .cons h t => by
    have ih := RepT.val k t
    by_cases e : p.1 = k
    · have e' : q.1 = k := by rw [← h.1]; exact e
      refine ⟨fun d ed => ?_, fun en => ?_⟩
      · unfold valM at ed
        rw [if_pos e] at ed; cases ed
        exact ⟨q.2, valV_pos e', h.2⟩
      · unfold valM at en
        rw [if_pos e] at en; cases en
    · have e' : ¬ q.1 = k := by rw [← h.1]; exact e
      unfold valM
      rw [if_neg e, valV_neg e']
      exact ih
theorem RepT.any {k : κ} : ∀ {a : List (κ × D)} {b : List (κ × V)}, RepT W ι H a b → (a.any fun kv => decide (kv.1 = k)) = (b.any fun kv => decide (kv.1 = k))
  | _, _, .nil => rfl
  | _, _, .cons h t => by rw [List.any_cons, List.any_cons, h.1, RepT.any t]
theorem RepT.repl {k : κ} {d : D} {v : V} (p : d.plain = true) (r : Rep W ι H d v) : ∀ {a : List (κ × D)} {b : List (κ × V)}, RepT W ι H a b → RepT W ι H (a.map fun kv => if kv.1 = k then (kv.1, d) else kv) (b.map fun kv => if kv.1 = k then (kv.1, v) else kv)
  | _, _, .nil => .nil
  | x :: a, y :: b, .cons h t => by
    rw [List.map_cons, List.map_cons]
    refine .cons ?_ (RepT.repl p r t)
    by_cases e : x.1 = k
    · rw [if_pos e, if_pos (by rw [← h.1]; exact e)]
      exact ⟨h.1, p, r⟩
    · rw [if_neg e, if_neg (by rw [← h.1]; exact e)]
      exact h
theorem repT_snoc {k : κ} {d : D} {v : V} (p : d.plain = true) (r : Rep W ι H d v) : ∀ {a : List (κ × D)} {b : List (κ × V)}, RepT W ι H a b → RepT W ι H (a ++ [(k, d)]) (b ++ [(k, v)])
  | _, _, .nil => .cons ⟨rfl, p, r⟩ .nil
  | _, _, .cons h t => .cons h (repT_snoc p r t)
theorem RepT.put {k : κ} {d : D} {v : V} (p : d.plain = true) (r : Rep W ι H d v) {a : List (κ × D)} {b : List (κ × V)} (t : RepT W ι H a b) : RepT W ι H (putM a k d) (putK b k v) := by
  unfold putM putK
  rw [t.any]
  split
  · exact t.repl p r
  · exact repT_snoc p r t
end
theorem Room.u {lv : Nat} {A : Around} (r : Room lv A) : A.units + 1 < cLine := by have := r.un; omega
end DE
set_option Elab.async false
set_option linter.all false
set_option maxRecDepth 100000
set_option maxHeartbeats 4000000
namespace DE
open PySem PySem.Spec L2
end DE
set_option Elab.async false
set_option linter.all false
set_option maxRecDepth 100000
set_option maxHeartbeats 4000000
namespace DE
open PySem PySem.Spec L2
end DE
set_option Elab.async false
set_option linter.all false
set_option maxRecDepth 100000
set_option maxHeartbeats 4000000
namespace DE
open PySem PySem.Spec L2
def strL (i : Int) : List Nat := (Str.ofString (toString i)).cps.toList
def strID : D → Option D
  | .int i => if Nat.blt i.natAbs.log2 1920 && Nat.ble (strL i).length 16777216 then some (.str (strL i)) else none
  | _ => none
end DE
set_option Elab.async false
set_option linter.all false
set_option maxRecDepth 100000
set_option maxHeartbeats 4000000
namespace DE
open PySem PySem.Spec L2 PyProof.Rows
end DE
set_option Elab.async false
set_option linter.all false
set_option maxRecDepth 100000
set_option maxHeartbeats 4000000
namespace DE
open PySem PySem.Spec L2 PyProof.Rows
end DE
set_option Elab.async false
set_option linter.all false
set_option maxRecDepth 100000
set_option maxHeartbeats 4000000
namespace DE
open PySem PySem.Spec L2 PyProof.Rows
end DE
set_option Elab.async false
set_option linter.all false
set_option maxRecDepth 100000
set_option maxHeartbeats 4000000
namespace DE
open PySem PySem.Spec L2 PyProof.Rows
end DE
set_option Elab.async false
set_option linter.all false
set_option maxRecDepth 100000
set_option maxHeartbeats 4000000
namespace DE
open PySem PySem.Spec L2 PyProof.Rows
/-- the first j iterators have moved on -/
def ZMid (h : Heap) (b0 : Nat) (us : List (Str × Tok)) (i j : Nat) : Prop := ∀ (k : Nat) p, us[k]? = some p → h.IsStrIter (b0 + k) (strIterType p.1) p.1 p.2 (if k < j then i + 1 else i)
theorem ZMid.keep {h h' : Heap} {b0 : Nat} {us : List (Str × Tok)} {i j : Nat} (x : ZMid h b0 us i j) (k : ∀ (c : Nat) o, b0 ≤ c → c < b0 + us.length → h.get? c = some o → h'.get? c = some o) : ZMid h' b0 us i j := fun n p e => by
  have hk : n < us.length := (List.getElem?_eq_some_iff.mp e).1
  obtain ⟨o, ho, r⟩ := x n p e
  exact ⟨o, k _ o (by omega) (by omega) ho, r⟩
def zRefs (b0 n : Nat) : List Value := (List.range n).map fun j => Value.ref (b0 + j)
abbrev IsTupL (h : Heap) (T : Addr) (xs : List Value) : Prop := h.get? T = some { cls := .type "tuple", data := .seq xs.toArray }
/-- the i-th sign of each -/
def ZCol (us : List (Str × Tok)) (i : Nat) (vs : List Value) : Prop := Paired (fun (p : Str × Tok) (v : Value) => ∃ c t, p.1.cps[i]? = some c ∧ v = .str ⟨#[c]⟩ t) us vs
end DE
set_option Elab.async false
set_option linter.all false
set_option maxRecDepth 100000
set_option maxHeartbeats 4000000
namespace DE
open PySem PySem.Spec L2 PyProof.Rows
/-- the tuples that were handed out -/
structure ZMade (us : List (Str × Tok)) (lo : Nat) (h : Heap) (as : List Nat) : Prop where
  rise : as.Pairwise (· < ·)
  above : ∀ a ∈ as, lo ≤ a
  cols : ∀ (j a : Nat), as[j]? = some a → ∃ vs, ZCol us j vs ∧ IsTupL h a vs
theorem ZMade.there {us : List (Str × Tok)} {lo : Nat} {h : Heap} {as : List Nat} (g : ZMade us lo h as) {a : Nat} (ha : a ∈ as) : a < h.objs.size := by
  obtain ⟨j, hj⟩ := List.mem_iff_getElem?.mp ha
  obtain ⟨_, _, e⟩ := g.cols j a hj
  exact Heap.lt_size e
theorem ZMade.keep {us : List (Str × Tok)} {lo : Nat} {h h' : Heap} {as : List Nat} (g : ZMade us lo h as) (k : ∀ (c : Nat) o, lo ≤ c → h.get? c = some o → h'.get? c = some o) : ZMade us lo h' as :=
  ⟨g.rise, g.above, fun j a e => by
    obtain ⟨vs, h1, h2⟩ := g.cols j a e
    exact ⟨vs, h1, k a _ (g.above a (List.mem_of_getElem? e)) h2⟩⟩
/-- the zip's state ahead of turn i -/
def ZSt (h : Heap) (b0 : Nat) (us : List (Str × Tok)) (lo i : Nat) : Prop :=
  ZMid h b0 us i 0 ∧ IsTupL h (b0 + us.length) (zRefs b0 us.length) ∧
    ((i = 0 ∧ IsZip h (b0 + us.length + 2) (b0 + us.length) (b0 + us.length + 1) .none ∧ ∃ xs : List Value, xs.length = us.length ∧ IsTupL h (b0 + us.length + 1) xs) ∨
      ∃ (T : Nat) (f : Bool) (oT : Obj), IsZipHeld h (b0 + us.length + 2) (b0 + us.length) (b0 + us.length + 1) T f ∧ h.get? T = some oT ∧ lo ≤ T)
theorem ZSt.keep {h h' : Heap} {b0 : Nat} {us : List (Str × Tok)} {S i : Nat} (x : ZSt h b0 us (S + 1) i) (hS : b0 + us.length + 3 ≤ S) (k : ∀ (c : Nat) o, c ≠ S → h.get? c = some o → h'.get? c = some o) : ZSt h' b0 us (S + 1) i := by
  obtain ⟨h1, h2, h3⟩ := x
  refine ⟨h1.keep fun c o c1 c2 e => k c o (by omega) e, k _ _ (by omega) h2, ?_⟩
  rcases h3 with ⟨e, h4, xs, h5, h6⟩ | ⟨T, f, oT, h4, h5, h6⟩
  · exact .inl ⟨e, k _ _ (by omega) h4, xs, h5, k _ _ (by omega) h6⟩
  · exact .inr ⟨T, f, oT, k _ _ (by omega) h4, k _ _ (by omega) h5, h6⟩
section
variable {prog : Program} {w : World} {A : Around} {E : Value → Shared → Prop} {s : Shared} {b0 : Nat} {us : List (Str × Tok)} {i m : Nat}
theorem ZSt.zipT {lo : Nat} {h : Heap} (x : ZSt h b0 us lo i) : ∃ o, h.get? (b0 + us.length + 2) = some o ∧ o.cls = .type "zip" := by
  rcases x.2.2 with ⟨_, h4, _⟩ | ⟨T, f, oT, h4, _⟩
  · exact ⟨_, h4, rfl⟩
  · exact ⟨_, h4, rfl⟩
end
end DE
set_option Elab.async false
set_option linter.all false
set_option maxRecDepth 100000
set_option maxHeartbeats 4000000
namespace DE
open PySem PySem.Spec L2 PyProof.Rows
def txOf (e : Int × Value) : Str := match e.2 with | .str x _ => x | _ => Str.empty
def TxE (w : World) (e : Int × Value) : Prop := ∃ x tk, e.2 = Value.str x tk ∧ e.1 = hashStr w x
/-- the texts at a are those of S, n of them; the table can be walked -/
def SetT (w : World) (h : Heap) (a : Addr) (S : Str → Bool) (n : Nat) : Prop :=
  ∃ ob es ep tb, h.get? a = some ob ∧ ob.ExactSet ∧ ob.data = .set es ep tb ∧ (∀ e ∈ es.toList, TxE w e) ∧ (es.toList.map txOf).Nodup ∧ (∀ x, S x = true ↔ x ∈ es.toList.map txOf) ∧
    es.size < scanBound ∧ tb.fits es.size = true ∧ es.size = n ∧ Ris tb.place.toList ∧ (w.params.followText "set-order" = true ∨ tb.led = true)
section
variable {P : Program} {w : World} {h h' : Heap} {a : Addr} {S : Str → Bool} {n : Nat}
theorem SetT.at (R : SetT w h a S n) (k : ∀ ob, h.get? a = some ob → h'.get? a = some ob) : SetT w h' a S n := by
  obtain ⟨ob, es, ep, tb, hg, r⟩ := R
  exact ⟨ob, es, ep, tb, k ob hg, r⟩
end
end DE
set_option Elab.async false
set_option linter.all false
set_option maxRecDepth 100000
set_option maxHeartbeats 4000000
namespace DE
open PySem PySem.Spec L2 PyProof.Rows
end DE
set_option Elab.async false
set_option linter.all false
set_option maxRecDepth 100000
set_option maxHeartbeats 4000000
namespace DE
open PySem PySem.Spec L2 PyProof.Rows
end DE
set_option Elab.async false
set_option linter.all false
set_option maxRecDepth 100000
set_option maxHeartbeats 4000000
namespace DE
open PySem PySem.Spec L2 PyProof.Rows
end DE
set_option Elab.async false
set_option linter.all false
set_option maxRecDepth 100000
set_option maxHeartbeats 4000000
namespace DE
open PySem PySem.Spec L2 PyProof.Rows
end DE
set_option Elab.async false
set_option linter.all false
set_option maxRecDepth 100000
set_option maxHeartbeats 4000000
namespace DE
open PySem PySem.Spec L2 PyProof.Rows
end DE
set_option Elab.async false
set_option linter.all false
set_option maxRecDepth 100000
set_option maxHeartbeats 4000000
namespace DE
open PySem PySem.Spec PyProof.Rows L2
theorem DRep.nte {W : Wd} {B : Bs} {ι : List Addr} {H : Hp} {v : V} {a : Addr} : ∀ {dv : DV}, DRep W B ι H v dv → dv.isOwn = true → v = .ref a → NTE (H a)
  | .imm _, _, h, _ => by cases h
  | .brw _, _, h, _ => by cases h
  | .obj _, _, h, _ => by cases h
  | .own _, h, _, e => by obtain ⟨_, b, xs, e', x, _⟩ := h; rw [e] at e'; cases e'; exact nte_lst x
  | .oT _, h, _, e => by obtain ⟨_, b, xs, e', x, _⟩ := h; rw [e] at e'; cases e'; exact nte_dT x
  | .oK _, h, _, e => by obtain ⟨_, b, xs, e', x, _⟩ := h; rw [e] at e'; cases e'; exact nte_dK x
end DE
set_option Elab.async false
set_option linter.all false
set_option maxRecDepth 100000
set_option maxHeartbeats 4000000
namespace DE
open PySem PySem.Spec PyProof.Rows L2
end DE
set_option Elab.async false
set_option linter.all false
set_option maxRecDepth 100000
set_option maxHeartbeats 4000000
namespace DE
open PySem PySem.Spec PyProof.Rows L2
theorem RepT.snd {W : Wd} {ι : List Addr} {H : Hp} {κ : Type} : ∀ {a : List (κ × D)} {b : List (κ × V)}, RepT W ι H a b → RepL W ι H (a.map (·.2)) (b.map (·.2))
  | _, _, .nil => .nil
  | _, _, .cons h t => .cons h.2.1 h.2.2 (RepT.snd t)
end DE
set_option Elab.async false
set_option linter.all false
set_option maxRecDepth 100000
set_option maxHeartbeats 4000000
namespace DE
open PySem PySem.Spec PyProof.Rows L2
end DE
set_option Elab.async false
set_option linter.all false
set_option maxRecDepth 100000
set_option maxHeartbeats 4000000
namespace DE
open PySem PySem.Spec L2 PyProof.Rows
end DE
namespace DE
open PySem PySem.Spec L2 PyProof.Rows
end DE
set_option Elab.async false
set_option linter.all false
set_option maxRecDepth 100000
set_option maxHeartbeats 4000000
namespace DE
open PySem PySem.Spec PyProof.Rows L2
end DE
set_option Elab.async false
set_option linter.all false
set_option maxRecDepth 100000
set_option maxHeartbeats 4000000
namespace DE
open PySem PySem.Spec L2
end DE
set_option Elab.async false
set_option linter.all false
set_option maxRecDepth 100000
set_option maxHeartbeats 4000000
namespace DE
open PySem PySem.Spec L2 PyProof.Rows
end DE
set_option Elab.async false
set_option linter.all false
set_option maxRecDepth 100000
set_option maxHeartbeats 4000000
namespace DE
open PySem PySem.Spec PyProof.Rows HT L2
end DE
set_option Elab.async false
set_option linter.all false
set_option maxRecDepth 100000
set_option maxHeartbeats 4000000
namespace DE
open PySem PySem.Spec PyProof.Rows L2
end DE
set_option Elab.async false
set_option linter.all false
set_option maxRecDepth 100000
set_option maxHeartbeats 4000000
namespace DE
open PySem PySem.Spec L2
end DE
set_option Elab.async false
set_option linter.all false
set_option maxRecDepth 100000
set_option maxHeartbeats 4000000
namespace DE
open PySem PySem.Spec L2
end DE
set_option Elab.async false
set_option linter.all false
set_option maxRecDepth 100000
set_option maxHeartbeats 4000000
namespace DE
open PySem PySem.Spec L2 PyProof.Rows
end DE
set_option Elab.async false
set_option linter.all false
set_option maxRecDepth 100000
set_option maxHeartbeats 4000000
namespace DE
open PySem PySem.Spec PyProof.Rows L2
end DE
set_option Elab.async false
set_option linter.all false
set_option maxRecDepth 100000
set_option maxHeartbeats 4000000
namespace DE
open PySem PySem.Spec PyProof.Rows L2
end DE
set_option Elab.async false
set_option linter.all false
set_option maxRecDepth 100000
set_option maxHeartbeats 4000000
namespace DE
open PySem PySem.Spec PyProof.Rows L2
end DE
set_option Elab.async false
set_option linter.all false
set_option maxRecDepth 100000
set_option maxHeartbeats 4000000
namespace DE
open PySem PySem.Spec PyProof.Rows L2
end DE
set_option Elab.async false
set_option linter.all false
set_option maxRecDepth 100000
set_option maxHeartbeats 4000000
namespace DE
open PySem PySem.Spec PyProof.Rows L2
end DE
set_option Elab.async false
set_option linter.all false
set_option maxRecDepth 100000
set_option maxHeartbeats 4000000
namespace DE
open PySem PySem.Spec PyProof.Rows L2
end DE
set_option Elab.async false
set_option linter.all false
set_option maxRecDepth 100000
set_option maxHeartbeats 4000000
namespace DE
open PySem PySem.Spec PyProof.Rows L2
end DE
set_option Elab.async false
set_option linter.all false
set_option maxRecDepth 100000
set_option maxHeartbeats 4000000
namespace DE
open PySem PySem.Spec L2
end DE
set_option Elab.async false
set_option linter.all false
set_option maxRecDepth 100000
set_option maxHeartbeats 4000000
namespace DE
open PySem PySem.Spec PyProof.Rows L2
end DE
set_option Elab.async false
set_option linter.all false
set_option maxRecDepth 100000
set_option maxHeartbeats 4000000
namespace DE
open PySem PySem.Spec PyProof.Rows L2
end DE
set_option Elab.async false
set_option linter.all false
set_option maxRecDepth 100000
set_option maxHeartbeats 4000000
namespace KK
open PySem PySem.Spec L2 DE
end KK
set_option Elab.async false
set_option linter.all false
set_option maxRecDepth 100000
set_option maxHeartbeats 4000000
namespace DE
open PySem PySem.Spec PyProof.Rows L2
abbrev veMro : List Value := [.type "ValueError", .type "Exception", .type "BaseException", .type "object"]
abbrev aeMro : List Value := [.type "ArithmeticError", .type "Exception", .type "BaseException", .type "object"]
/-- a built-in class that exceptions of the program stand upon -/
structure XBase (bmB : List Value) (newId : String) : Prop where
  ex : ∃ B initId, ExcBaseFacts B newId initId bmB
  pass : ∀ self, PySem.refuseLoop self "__setattr__" bmB = pure ()
  ob : bmB.contains (.type "object") = true
/-- what the written part says of an exception class -/
structure ExT (K : PySem.W.Frag) (C : Addr) : Prop where
  cls : ∃ bmB newId, XBase bmB newId ∧ PySem.W.excInitIn K C bmB newId = true
  sa : PySem.W.findIn K (.ref C) "__setattr__" = some (some (.builtin "object.__setattr__"))
  ga : PySem.W.findIn K (.ref C) "__getattribute__" = some (some (.builtin "BaseException.__getattribute__"))
  gg : PySem.W.findIn K (.ref C) "__getattr__" = some none
  hk : PySem.W.findIn K (.ref C) "__class__" = some (some (.builtin "object.__class__"))
  gk : PySem.W.specialIn K (.builtin "object.__class__") "__get__" = some (some (.builtin "getset_descriptor.__get__"))
  tk : PySem.W.takesIn K (.builtin "object.__class__") = some true
  mo : PySem.W.mroIn K C (.type "object") = some true
  exC : PySem.W.subIn K (.ref C) (.type "BaseException") = some true
  tyC : PySem.W.typeIn K (.ref C) = some (.type "type")
  kC : PySem.W.keepIn K (.ref C) = true
  hdC : PySem.W.hasDictIn K C = true
theorem ExT.raises {X : Cx} {C : Addr} (T : ExT X.K C) : Raises X (.ref C) := raises_own T.exC T.tyC
theorem ExT.obj {K : PySem.W.Frag} {C : Addr} (T : ExT K C) : ∃ bmB newId nm N qn bs bm sn sub ab col dd k0 k1 k2 k3 k5, XBase bmB newId ∧
    K.lookup C = some (excClassObj nm qn C N bs bm true sn sub ab col dd k0 k1 k2 k3 k5 newId) ∧ PySem.W.excTail bmB bm = true := by
  obtain ⟨bmB, newId, B, q⟩ := T.cls
  have hd := T.hdC
  unfold PySem.W.excInitIn at q
  split at q
  · rename_i dd cd sl ho
    split at q
    · rename_i C' bm k0 k1 k2 k3 n k5 hm hs
      simp only [Bool.and_eq_true, beq_iff_eq, Bool.not_eq_true'] at q
      obtain ⟨⟨⟨rfl, rfl⟩, hdel⟩, ht⟩ := q
      obtain ⟨nm, bs, mro, ns, qn, hdc, sn, sub, ab, col, del⟩ := cd
      dsimp only at hm hdel
      subst hm hdel
      have hsl : sl = #[k0, k1, k2, k3, some (.builtin n), k5] := by
        obtain ⟨l⟩ := sl
        simp only at hs
        rw [hs]
      subst hsl
      unfold PySem.W.hasDictIn PySem.W.clsIn at hd
      rw [ho] at hd
      have hd : hdc = true := hd
      subst hd
      exact ⟨bmB, n, nm, ns, qn, bs, bm, sn, sub, ab, col, dd, k0, k1, k2, k3, k5, B, ho, ht⟩
    · cases q
  · cases q
end DE
set_option Elab.async false
set_option linter.all false
set_option maxRecDepth 100000
set_option maxHeartbeats 4000000
namespace DE
open PySem PySem.Spec PyProof.Rows L2
def posOk (fd : FuncData) (K : PySem.W.Frag) : Bool := decide (fd.globals = mainGlobals) && fd.closure.isEmpty && decide (fd.builtins = builtinsNs) && decide (fd.defaults = .none) && PySem.W.codeIn K fd.code fd.qualname
/-- def __init__(self, f): self.f = f -/
def ini1B (K : PySem.W.Frag) (g : Addr) (f : Str) : Bool := match K.lookup g with
  | some ⟨.type "function", _, .func fd, _⟩ => (match fd.params with
      | ⟨[], [⟨a, none, _⟩, ⟨b, none, _⟩], none, [], [], none, []⟩ => decide (a = "self") && decide (b = f)
      | _ => false)
    && (match fd.body with
      | .stmts [.Assign [.Attribute (.Name s _) v _] (.Name u _) _] => decide (s = "self") && decide (v = f) && decide (u = f)
      | _ => false)
    && decide (fd.scope = ⟨.function, [("self", .local), (f, .local)], false, false, fd.scope.more⟩) && posOk fd K
  | _ => false
end DE
set_option Elab.async false
set_option linter.all false
set_option maxRecDepth 100000
set_option maxHeartbeats 4000000
namespace DE
open PySem PySem.Spec PyProof.Rows L2
end DE
set_option Elab.async false
set_option linter.all false
set_option maxRecDepth 100000
set_option maxHeartbeats 4000000
namespace DE
open PySem PySem.Spec PyProof.Rows L2
open PySem.HandSPX (FlyingZ HeldZ TracedZ)
end DE
set_option Elab.async false
set_option linter.all false
set_option maxRecDepth 100000
set_option maxHeartbeats 4000000
namespace DE
open PySem PySem.Spec PyProof.Rows L2
/-- data, or an exception: its class, its fields -/
inductive XR where
  | ok (d : D) | ex (c : Nat) (fs : List (Nat × D))
/-- what is asked of a result -/
def XrK (p : D → Prop) (q : Nat → List (Nat × D) → Prop) : XR → Prop
  | .ok d => p d
  | .ex c fs => q c fs
abbrev EvX := Z → Option (XR × Z)
abbrev FnX := List D → Store → Option (XR × Store)
/-- the exception's class and dict as data -/
def XcRep (W : Wd) (ι : List Addr) (H : Hp) (c : Nat) (fs : List (Nat × D)) (cls : Value) (d : Option Addr) : Prop := ∃ C, W.cls c = some C ∧ cls = .ref C ∧ ((fs = [] ∧ d = none) ∨ ∃ dd fvs, d = some dd ∧ H dd = some (.xd fvs) ∧ RepF W ι H C fs fvs)
theorem XcRep.kp {W : Wd} {ι ι' : List Addr} {H H' : Hp} {c : Nat} {fs : List (Nat × D)} {cls : Value} {d : Option Addr} (h : XcRep W ι H c fs cls d) (k : Kp ι H ι' H') : XcRep W ι' H' c fs cls d := by
  obtain ⟨C, h1, h2, h3⟩ := h
  exact ⟨C, h1, h2, h3.imp id fun ⟨dd, fvs, e1, e2, e3⟩ => ⟨dd, fvs, e1, k.fz dd _ e2 rfl, e3.kp k⟩⟩
/-- the promise of a def that computes g, or raises -/
def spDX (W : Wd) (n : Nat) (g : FnX) : Sp := fun vs H Q E => ∃ ι S ds r S', ds.length = n ∧ Paired (Rep W ι H) ds vs ∧ StRep W ι H S ∧ g ds S = some (r, S') ∧ XrK (fun d => ∀ v ι' H', CKp ι H ι' H' → StRep W ι' H' S' → d.plain = true → Rep W ι' H' d v → Q v H')
  (fun c fs => ∀ cls d ι' H', CKp ι H ι' H' → StRep W ι' H' S' → XcRep W ι' H' c fs cls d → E cls d H') r
/-- called where no repr is under way; may raise -/
structure FnGX (P : Program) (w : World) (K : PySem.W.Frag) (mg : Str → Option Value) (base : Heap) (k : Nat) (f : Addr) (fd : FuncData) (ps : List Str) (sp : Sp) : Prop where
  len : ∀ vs H Q E, sp vs H Q E → vs.length = ps.length
  run : ∀ (A : Around) (outer : List Env) (s : Shared) (H : Hp) (args : Args) (us : List Value) (vs : List V) (Q : VK) (E : XK), Room k A → A.guards = some [] → Env0 P w K mg base A outer s H → BindsTo s fd args (ps.zip us) → Vals vs us → sp vs H Q E →
    codeAny (model P w) A (.call (.ref f) args) (CR (L2.CX P w) outer P w H s Q E) s
section
variable {P : Program} {w : World} {K : PySem.W.Frag} {mg : Str → Option Value} {base : Heap} {j k : Nat} {f : Addr} {fd : FuncData} {ps : List Str} {sp sp' : Sp}
theorem FnGX.mono (F : FnGX P w K mg base j f fd ps sp) (h : j ≤ k) : FnGX P w K mg base k f fd ps sp := ⟨F.len, fun A outer s H args us vs Q E hr => F.run A outer s H args us vs Q E (hr.mono h)⟩
end
section
variable {X : Cx} {W : Wd} {B : Bs} {pins : List (Addr × Obj)} {σ : L2.St} {H : Hp} {s : Shared} {Q : VK} {wx : WX}
/-- the callee's end is this body's next state, or its exception is in our air -/
theorem backX (tk : Takes X wx) (I : Inv X pins σ H s) {A : Around} {c : Code} (h : codeAny (model X.prog X.w) A c (CR (L2.CX X.prog X.w) X.stack X.prog X.w H s Q (WE wx σ)) s) : codeAny (model X.prog X.w) A c (fun r s' => match r with | .ok (.ret u) => EP X pins σ Q u s' | .ok _ => False | .error e => X.xe e s') s :=
  codeAny_mono h fun r s' hq => by
    cases r with
    | error e => exact passAt tk σ pins H s e s' I hq
    | ok fl =>
      cases fl with
      | ret u => exact I.after hq
      | _ => exact hq.elim
theorem run_fnGX {k : Nat} {f : Addr} {fd : FuncData} {ps : List Str} {sp : Sp} {us : List Value} {vs : List V} (tk : Takes X wx) (F : FnGX X.prog X.w X.K X.mg X.base k f fd ps sp) (hr : Room k X.A) (hgd : X.A.guards = some []) (hb : Binds X.K fd ps []) (I : Inv X pins σ H s) (r : Vals vs us) (h : sp vs H Q (WE wx σ)) :
    wpAny (model X.prog X.w) X.A (call (.ref f) us) (EP X pins σ Q) X.xe s := by
  have hl : (us ++ []).length = ps.length := by rw [List.append_nil, ← r.length]; exact F.len _ _ _ _ h
  have hB := hb s us I.kIn hl
  rw [List.append_nil] at hB
  refine wpAny_call (codeAny_mono (backX tk I (F.run X.A X.stack s H ⟨us, []⟩ us vs Q (WE wx σ) hr hgd I.env0 hB r h)) fun r s' hq => ?_)
  cases r with
  | error e => exact hq
  | ok fl => cases fl <;> exact hq
/-- an expression that may raise, read as data -/
def txv (W : Wd) (B : Bs) (f : EvX) (wx : WX) : TE := fun σ H Q => ∃ ι z r z', ZR W B ι H σ z ∧ f z = some (r, z') ∧ XrK (fun d => ∀ v ι' H', Kp ι H ι' H' → XRep W ι' H' σ d v → ZR W B ι' H' σ z' → Q v H')
  (fun c fs => ∀ cls d ι' H', Kp ι H ι' H' → XcRep W ι' H' c fs cls d → ZR W B ι' H' σ z' → wx cls d σ H') r
def xPure (f : Ev) : EvX := fun z => (f z).map fun x => (.ok x.1, x.2)
theorem pe_xpure {e : Expr} {f : Ev} (h : PE X e (tev W B f)) : PE X e (txv W B (xPure f) wx) := pe_mono h fun σ H Q q => by
  obtain ⟨ι, z, r, z', zr, e1, k⟩ := q
  unfold xPure at e1
  cases ea : f z with
  | none => rw [ea] at e1; cases e1
  | some x => rw [ea] at e1; cases e1; exact ⟨ι, z, x.1, x.2, zr, ea, k⟩
def xCall (n : Nat) (g : FnX) (f : EvA) : EvX := fun z => (f z).bind fun x => (lendAll x.2 x.1).bind fun ds => if ds.length = n then (g ds x.2.2).map fun r => (r.1, (x.2.1, r.2)) else none
/-- behind a call that may raise -/
theorem spDX_end {n : Nat} {g : FnX} {ds : List D} {vs : List V} {ι ι1 : List Addr} {H1 : Hp} {z1 : Z} {r : XR} {S' : Store} (kp0 : Kp ι H ι1 H1) (hn : ds.length = n) (hl : Paired (Rep W ι1 H1) ds vs) (zr1 : ZR W B ι1 H1 σ z1) (e3 : g ds z1.2 = some (r, S'))
    (k : XrK (fun d => ∀ v ι' H', Kp ι H ι' H' → XRep W ι' H' σ d v → ZR W B ι' H' σ (z1.1, S') → Q v H')
      (fun c fs => ∀ cls d ι' H', Kp ι H ι' H' → XcRep W ι' H' c fs cls d → ZR W B ι' H' σ (z1.1, S') → wx cls d σ H') r) : spDX W n g vs H1 Q (WE wx σ) := by
  refine ⟨ι1, z1.2, ds, r, S', hn, hl, zr1.st, e3, ?_⟩
  cases r with
  | ok d => exact fun v ι2 H2 c2 st2 p rp => k v ι2 H2 (kp0.trans (c2.kp st2 fun a ha => zr1.st.mem ha)) (XRep.of p rp) (zr1.call c2 st2)
  | ex c fs => exact fun cls d ι2 H2 c2 st2 xc => k cls d ι2 H2 (kp0.trans (c2.kp st2 fun a ha => zr1.st.mem ha)) xc (zr1.call c2 st2)
theorem txv_call {n : Nat} {g : FnX} {f : EvA} (σ : L2.St) (H : Hp) (Q : VK) (q : txv W B (xCall n g f) wx σ H Q) : tevA W B f σ H (fun vs H1 => spDX W n g vs H1 Q (WE wx σ)) := by
  obtain ⟨ι, z, r, z', zr, e1, k⟩ := q
  unfold xCall at e1
  cases ea : f z with
  | none => rw [ea] at e1; cases e1
  | some x =>
    rw [ea, Option.bind_some] at e1
    cases e2 : lendAll x.2 x.1 with
    | none => rw [e2] at e1; cases e1
    | some ds =>
      rw [e2, Option.bind_some] at e1
      split at e1
      · rename_i hn
        cases e3 : g ds x.2.2 with
        | none => rw [e3] at e1; cases e1
        | some r' =>
          rw [e3] at e1; cases e1
          exact ⟨ι, z, x.1, x.2, zr, ea, fun vs ι1 H1 k1 r1 zr1 => spDX_end k1 hn (lendAll_rep zr1 r1 e2) zr1 e3 k⟩
      · cases e1
/-- a def that may raise, under a name -/
structure CalX (P : Program) (w : World) (K : PySem.W.Frag) (mg : Str → Option Value) (base : Heap) (W : Wd) (k : Nat) (x : Str) (n : Nat) (g : FnX) : Prop where
  ex : ∃ (f : Addr) (fd : FuncData) (ps : List Str), FnGX P w K mg base k f fd ps (spDX W n g) ∧ mg x = some (.ref f) ∧ PySem.W.keepIn K (.ref f) = true ∧ Binds K fd ps []
theorem pe_callX {n k j : Nat} {g : FnX} {f : EvA} {x : Str} {e : Expr} {es : List Expr} {p pos : Pos} (tk : Takes X wx) (cl : CalX X.prog X.w X.K X.mg X.base W k x n g) (hr : Room j X.A) (hgd : X.A.guards = some []) (hk : k ≤ j) (hg : Gl X x) (ha : PA X (e :: es) (tevA W B f)) (hdb : (x == ("__debug__" : Str)) = false)
    (he : starEach (e :: es) X.env = (false, eval e X.env) :: starEach es X.env) (hpl : (backTo pos (starEach es X.env)).any (·.1) = false) : PE X (.Call (.Name x p) (e :: es) [] pos) (txv W B (xCall n g f) wx) := by
  obtain ⟨fa, fd, ps, F, hm, kp, b⟩ := cl.ex
  refine ⟨fun pins s σ H Q I h => wpAny_Call_Name_kw (ld_glob I hg hm ?_ hdb)⟩
  refine PySem.W.callWith_K (h₀ := X.base) I.ok.mod.kin kp (thn (ha.run pos pins s σ H _ I (txv_call σ H Q h)) fun us s1 ⟨vs, H1, I1, r, q⟩ => ⟨I1.kIn, ?_⟩) he hpl
  exact run_fnGX tk F (hr.mono hk) hgd b I1 r q
end
end DE
set_option Elab.async false
set_option linter.all false
set_option maxRecDepth 100000
set_option maxHeartbeats 4000000
namespace DE
open PySem PySem.Spec PyProof.Rows L2
inductive FlX where
  | out (f : Fl) | ex (c : Nat) (fs : List (Nat × D))
abbrev EvXS := Z → Option (FlX × Z)
def FinX (W : Wd) (ι : List Addr) (H : Hp) (σ : L2.St) (D : Ends) (wx : WX) : FlX → Prop
  | .out f => Fin W ι H σ D f
  | .ex c fs => ∀ cls d, XcRep W ι H c fs cls d → wx cls d σ H
def txs (W : Wd) (B : Bs) (f : EvXS) (wx : WX) : TS := fun D σ H => ∃ ι z fl z', ZR W B ι H σ z ∧ f z = some (fl, z') ∧ ∀ σ' ι' H', Kp ι H ι' H' → ZR W B ι' H' σ' z' → FinX W ι' H' σ' D wx fl
theorem PS.noxD {X : Cx} {st : Stmt} {t : TS} (h : PS X.nox st t) : PS X st t := ⟨fun pins s σ H D I hw =>
  wpAny_mono (h.run pins s σ H D (I.wish _) hw) (fun _ _ q => q.unwish) fun _ _ z => False.elim z⟩
theorem PI.noxD {X : Cx} {tg iter : Expr} {wi : TI} (hi : PI X.nox tg iter wi) : PI X tg iter wi := ⟨fun pins s σ H R I h =>
  wpAny_mono (hi.run pins s σ H R (I.wish _) h) (fun v s1 hv => wpAny_mono hv (fun itv s2 ⟨it, fp, tn, J, H', e, I', T, st, f2, r⟩ => ⟨it, fp, tn, J, H', e, I'.unwish, T, st, f2, r⟩) fun _ _ z => z.elim) fun _ _ z => z.elim⟩
theorem PG.noxD {X : Cx} {tg : Expr} {t : TG} (hg : PG X.nox tg t) : PG X tg t := ⟨fun pins s σ H v u Q I r h =>
  wpAny_mono (hg.run pins s σ H v u Q (I.wish _) r h) (fun _ s' ⟨σ', H', I', q⟩ => ⟨σ', H', I'.unwish, q⟩) fun _ _ z => z.elim⟩
theorem PA.noxD {X : Cx} {es : List Expr} {t : TA} (h : PA X.nox es t) : PA X es t := ⟨fun pos pins s σ H Q I q =>
  wpAny_mono (h.run pos pins s σ H Q (I.wish _) q) (fun us s' ⟨vs, H', I', r, q⟩ => ⟨vs, H', I'.unwish, r, q⟩) fun _ _ z => z.elim⟩
section
variable {X : Cx} {W : Wd} {B : Bs} {wx : WX} {pos : Pos}
def zPure (f : EvS) : EvXS := fun z => (f z).map fun x => (.out x.1, x.2)
theorem txs_pure {f : EvS} (D : Ends) (σ : L2.St) (H : Hp) (q : txs W B (zPure f) wx D σ H) : tss W B f D σ H := by
  obtain ⟨ι, z, fl, z', zr, e1, k⟩ := q
  unfold zPure at e1
  cases ea : f z with
  | none => rw [ea] at e1; cases e1
  | some x => rw [ea] at e1; cases e1; exact ⟨ι, z, x.1, x.2, zr, ea, k⟩
def zSeq (f g : EvXS) : EvXS := fun z => (f z).bind fun x => match x.1 with
  | .out .nx => g x.2
  | fl => some (fl, x.2)
theorem zs_nil : PSs X [] (txs W B (fun z => some (.out .nx, z)) wx) := by
  refine pss_mono pss_nil fun D σ H q => ?_
  obtain ⟨ι, z, fl, z', zr, e1, k⟩ := q
  cases e1
  exact k σ ι H .refl zr
theorem zs_cons {st : Stmt} {rest : List Stmt} {f g : EvXS} (h1 : PS X st (txs W B f wx)) (h2 : PSs X rest (txs W B g wx)) : PSs X (st :: rest) (txs W B (zSeq f g) wx) := by
  refine pss_mono (pss_cons h1 h2) fun D σ H q => ?_
  obtain ⟨ι, z, fl, z', zr, e1, k⟩ := q
  unfold zSeq at e1
  cases ef : f z with
  | none => rw [ef] at e1; cases e1
  | some x =>
    rw [ef, Option.bind_some] at e1
    obtain ⟨fl1, z1⟩ := x
    refine ⟨ι, z, fl1, z1, zr, ef, fun σ1 ι1 H1 k1 zr1 => ?_⟩
    cases fl1 with
    | ex c fs => cases e1; exact k σ1 ι1 H1 k1 zr1
    | out fo =>
      cases fo with
      | nx => exact ⟨ι1, z1, fl, z', zr1, e1, fun σ2 ι2 H2 k2 zr2 => k σ2 ι2 H2 (k1.trans k2) zr2⟩
      | bk => cases e1; exact k σ1 ι1 H1 k1 zr1
      | ct => cases e1; exact k σ1 ι1 H1 k1 zr1
      | rt d => cases e1; exact k σ1 ι1 H1 k1 zr1
/-- e; as a statement -/
def zExp (f : EvX) : EvXS := fun z => (f z).map fun x => match x.1 with
  | .ok _ => (.out .nx, x.2)
  | .ex c fs => (.ex c fs, x.2)
theorem zs_exp {e : Expr} {f : EvX} (he : PE X e (txv W B f wx)) (hs : swapsWith e none pos.line X.env = pure false) : PS X (.Expr e pos) (txs W B (zExp f) wx) :=
  ps_mono (ps_expr he hs) fun D σ H q => by
    obtain ⟨ι, z, fl, z', zr, e1, k⟩ := q
    unfold zExp at e1
    cases ef : f z with
    | none => rw [ef] at e1; cases e1
    | some x =>
      rw [ef] at e1
      obtain ⟨r, z1⟩ := x
      refine ⟨ι, z, r, z1, zr, ef, ?_⟩
      cases r with
      | ok d => cases e1; exact fun v ι1 H1 k1 r1 zr1 => k σ ι1 H1 k1 zr1
      | ex c fs => cases e1; exact fun cls d ι1 H1 k1 x1 zr1 => k σ ι1 H1 k1 zr1 cls d x1
def zRet (f : EvX) : EvXS := fun z => (f z).bind fun x => match x.1 with
  | .ok d => if d.plain then some (.out (.rt d), x.2) else none
  | .ex c fs => some (.ex c fs, x.2)
theorem zs_ret {e : Expr} {f : EvX} (he : PE X e (txv W B f wx)) : PS X (.Return (some e) pos) (txs W B (zRet f) wx) :=
  ps_mono (ps_ret he) fun D σ H q => by
    obtain ⟨ι, z, fl, z', zr, e1, k⟩ := q
    unfold zRet at e1
    cases ef : f z with
    | none => rw [ef] at e1; cases e1
    | some x =>
      rw [ef, Option.bind_some] at e1
      obtain ⟨r, z1⟩ := x
      refine ⟨ι, z, r, z1, zr, ef, ?_⟩
      cases r with
      | ok d =>
        simp only at e1
        split at e1
        · rename_i hp
          cases e1
          exact fun v ι1 H1 k1 r1 zr1 => k σ ι1 H1 k1 zr1 v hp (r1.rep hp)
        · cases e1
      | ex c fs => cases e1; exact fun cls d ι1 H1 k1 x1 zr1 => k σ ι1 H1 k1 zr1 cls d x1
/-- x = e -/
def zSet (i : Nat) (f : EvX) : EvXS := fun z => (f z).bind fun x => match x.1 with
  | .ok d => if d.plain then some (.out .nx, (x.2.1.set i (some (.imm d)), x.2.2)) else none
  | .ex c fs => some (.ex c fs, x.2)
theorem zs_set {e : Expr} {f : EvX} {i : Nat} {x : Str} {pos' : Pos} (hN : X.N.Nodup) (hi : X.N[i]? = some x) (hx : Loc X.env.scope x) (he : PE X e (txv W B f wx)) (hs : swapsWith e (some (.Name x pos')) pos.line X.env = pure false) (hf : X.fn x = true ∨ X.env.scope.names.lookup x = some .local) : PS X (.Assign [.Name x pos'] e pos) (txs W B (zSet i f) wx) :=
  ps_mono (ps_set hN hi hx he hs hf) fun D σ H q => by
    obtain ⟨ι, z, fl, z', zr, e1, k⟩ := q
    unfold zSet at e1
    cases ef : f z with
    | none => rw [ef] at e1; cases e1
    | some x =>
      rw [ef, Option.bind_some] at e1
      obtain ⟨r, z1⟩ := x
      refine ⟨ι, z, r, z1, zr, ef, ?_⟩
      cases r with
      | ok d =>
        simp only at e1
        split at e1
        · rename_i hp
          cases e1
          exact fun v ι1 H1 k1 r1 zr1 => k _ ι1 H1 k1 (zr1.set hp (r1.rep hp))
        · cases e1
      | ex c fs => cases e1; exact fun cls d ι1 H1 k1 x1 zr1 => k σ ι1 H1 k1 zr1 cls d x1
def zIf (t : EvT) (f g : EvXS) : EvXS := fun z => (t z).bind fun x => if x.1 then f x.2 else g x.2
theorem zs_if {c : Expr} {t : EvT} {f g : EvXS} {xs ys : List Stmt} (ht : PT X c (ttv W B t)) (hf : PSs X xs (txs W B f wx)) (hg : PSs X ys (txs W B g wx)) : PS X (.If c xs ys pos) (txs W B (zIf t f g) wx) :=
  ps_mono (ps_if ht hf hg) fun D σ H q => by
    obtain ⟨ι, z, fl, z', zr, e1, k⟩ := q
    unfold zIf at e1
    cases ef : t z with
    | none => rw [ef] at e1; cases e1
    | some x =>
      rw [ef, Option.bind_some] at e1
      obtain ⟨b, z1⟩ := x
      refine ⟨ι, z, b, z1, zr, ef, fun ι1 H1 k1 zr1 => ?_⟩
      cases b with
      | true => rw [if_pos rfl]; exact ⟨ι1, z1, fl, z', zr1, e1, fun σ2 ι2 H2 k2 zr2 => k σ2 ι2 H2 (k1.trans k2) zr2⟩
      | false => rw [if_neg Bool.false_ne_true]; exact ⟨ι1, z1, fl, z', zr1, e1, fun σ2 ι2 H2 k2 zr2 => k σ2 ι2 H2 (k1.trans k2) zr2⟩
def forX (g : EvG) (b : EvXS) : List D → EvXS
  | [], z => some (.out .nx, z)
  | d :: ds, z => (g d z).bind fun z1 => (b z1).bind fun x => match x.1 with
    | .out .nx => forX g b ds x.2
    | .out .ct => forX g b ds x.2
    | .out .bk => some (.out .nx, x.2)
    | .out (.rt v) => some (.out (.rt v), x.2)
    | .ex c fs => some (.ex c fs, x.2)
def zFor (f : EvA) (g : EvG) (b : EvXS) : EvXS := fun z => (f z).bind fun x => forX g b x.1 x.2
theorem zs_for {iter tg : Expr} {body : List Stmt} {f : EvA} {g : EvG} {b : EvXS} (hp : PassesOwn (model X.prog X.w) X.A X.env X.xe) (hc : X.calm = true) (hi : PI X tg iter (tiv W B f)) (hg : PG X tg (tgv W B g)) (hb : PSs X body (txs W B b wx)) (hs : ∀ x, foldedSetIterable iter X.env x = pure x) :
    PS X (.For tg iter body [] pos) (txs W B (zFor f g b) wx) := by
  refine ps_mono (ps_for hp hc hi hg hb hs) fun D σ H q => ?_
  obtain ⟨ι, z, fl, z', zr, e1, k⟩ := q
  unfold zFor at e1
  cases ef : f z with
  | none => rw [ef] at e1; cases e1
  | some x =>
    rw [ef, Option.bind_some] at e1
    obtain ⟨ds, z1⟩ := x
    refine ⟨ι, z, ds, z1, zr, ef, fun J G ι1 H1 k1 zr1 wl g1 gk => ?_⟩
    refine ⟨fun i m σ2 H2 => m = ds.length - i ∧ i ≤ ds.length ∧ ∃ ι2 z2, Kp ι1 H1 ι2 H2 ∧ ZR W B ι2 H2 σ2 z2 ∧ forX g b (ds.drop i) z2 = some (fl, z'), ⟨ds.length, by simp, Nat.zero_le _, ι1, z1, .refl, zr1, by simpa using e1⟩, ?_⟩
    rintro i m σ2 H2 ⟨rfl, hi, ι2, z2, k2, zr2, e2⟩
    have g2 := gk ι2 H2 k2
    by_cases hlt : i < ds.length
    · have hd : ds.drop i = ds[i] :: ds.drop (i + 1) := List.drop_eq_getElem_cons hlt
      rw [hd] at e2
      unfold forX at e2
      cases eg : g ds[i] z2 with
      | none => rw [eg] at e2; cases e2
      | some z3 =>
        rw [eg, Option.bind_some] at e2
        cases eb : b z3 with
        | none => rw [eb] at e2; cases e2
        | some y =>
          rw [eb, Option.bind_some] at e2
          obtain ⟨fl4, z4⟩ := y
          refine .inr ⟨wl.goes i H2 hlt g2, fun σ5 H5 => ∃ ι5 z5, Kp ι1 H1 ι5 H5 ∧ ZR W B ι5 H5 σ5 z5 ∧ forX g b (ds.drop (i + 1)) z5 = some (fl, z'), ?_, ?_⟩
          · rintro σ5 H5 ⟨ι5, z5, k5, zr5, e5⟩
            exact ⟨ds.length - (i + 1), by omega, rfl, hlt, ι5, z5, k5, zr5, e5⟩
          · intro x H3 hy
            obtain ⟨sm, yl⟩ := wl.yields i H2 x H3 hlt g2 hy
            obtain ⟨pl, rp⟩ := yl ds[i] ι2 (List.getElem?_eq_getElem hlt) k2
            have k3 : Kp ι1 H1 ι2 H3 := k2.trans (Kp.same sm)
            refine ⟨ι2, z2, ds[i], z3, zr2.same sm, pl, rp, eg, fun σ6 ι6 H6 k6 zr6 => ⟨ι6, z3, fl4, z4, zr6, eb, fun σ7 ι7 H7 k7 zr7 => ?_⟩⟩
            have k8 : Kp ι1 H1 ι7 H7 := (k3.trans k6).trans k7
            cases fl4 with
            | ex c fs =>
              cases e2
              exact k σ7 ι7 H7 (k1.trans k8) zr7
            | out fo =>
              cases fo with
              | nx => exact ⟨ι7, z4, k8, zr7, e2⟩
              | ct => exact ⟨ι7, z4, k8, zr7, e2⟩
              | bk =>
                cases e2
                exact k σ7 ι7 H7 (k1.trans k8) zr7
              | rt v =>
                cases e2
                exact k σ7 ι7 H7 (k1.trans k8) zr7
    · have e : i = ds.length := by omega
      subst e
      rw [List.drop_length] at e2
      cases e2
      exact .inl ⟨wl.stops H2 g2, k σ2 ι2 H2 (k1.trans k2) zr2⟩
end
def FitsX (G : GX) (lv : Nat) (N : List Str) (sc : Scope) (X : Cx) : Prop := Fits G lv N sc X.nox
/-- an expression that may raise -/
structure XE where
  sh : List Str → Scope → Expr → Bool
  sem : EvX
  need : GX → Nat → Prop
  ok : ∀ {G : GX} {lv : Nat}, need G lv → ∀ {N : List Str} {sc : Scope} {X : Cx}, FitsX G lv N sc X → ∀ {e : Expr}, sh N sc e = true → ∀ (B : Bs) (wx : WX), Takes X wx → PE X e (txv G.W B sem wx)
/-- a body's own frame -/
structure PoX (X : Cx) : Prop where
  po : PassesOwn (model X.prog X.w) X.A X.env X.xe
  st : X.stack = X.env :: X.outer
  fr : X.env.frame = some X.env.locals
/-- a statement that may raise -/
structure XS where
  sh : List Str → Scope → Stmt → Bool
  sem : EvXS
  need : GX → Nat → Prop
  ok : ∀ {G : GX} {lv : Nat}, need G lv → ∀ {N : List Str} {sc : Scope} {X : Cx}, FitsX G lv N sc X → sc.kind = .function → (∀ x, X.fn x = true) → PoX X → ∀ {st : Stmt}, sh N sc st = true → ∀ (B : Bs) (wx : WX), Takes X wx → PS X st (txs G.W B sem wx)
structure XSs where
  sh : List Str → Scope → List Stmt → Bool
  sem : EvXS
  need : GX → Nat → Prop
  ok : ∀ {G : GX} {lv : Nat}, need G lv → ∀ {N : List Str} {sc : Scope} {X : Cx}, FitsX G lv N sc X → sc.kind = .function → (∀ x, X.fn x = true) → PoX X → ∀ {st : List Stmt}, sh N sc st = true → ∀ (B : Bs) (wx : WX), Takes X wx → PSs X st (txs G.W B sem wx)
def XE.pure (a : E) : XE where
  sh := fun N sc e => chkE N sc a e
  sem := xPure (evE a)
  need := fun G lv => needE G lv a
  ok := fun nd _ _ _ fx _ h B wx tk => pe_xpure (PE.nox (sE a h nd fx B))
/-- f(..), by position -/
def XE.call (x : Str) (n : Nat) (g : FnX) (es : Es) : XE where
  sh := fun N sc e => match e with
    | .Call (.Name y _) (v :: vs) [] _ => decide (y = x) && glb sc y && nodbg y && (v :: vs).all notStar && chkEs N sc es (v :: vs)
    | _ => false
  sem := xCall n g (evEs es)
  need := fun G lv => (∃ k, k ≤ lv ∧ CalX G.P G.w G.W.K G.mg G.base G.W k x n g) ∧ needEs G lv es
  ok := fun {G lv} nd N sc X fx e h B wx tk => by
    split at h
    · rename_i y p v vs pos
      simp only [Bool.and_eq_true, decide_eq_true_eq] at h
      obtain ⟨⟨⟨⟨rfl, h1⟩, h2⟩, h3⟩, h4⟩ := h
      obtain ⟨⟨k, hk, cl⟩, ne⟩ := nd
      have cl' : CalX X.prog X.w X.K X.mg X.base G.W k y n g := by
        have a1 : X.prog = _ := fx.pr
        have a2 : X.w = _ := fx.hw
        have a3 : X.K = _ := fx.k
        have a4 : X.mg = _ := fx.mg
        have a5 : X.base = _ := fx.bs
        rw [a1, a2, a3, a4, a5]; exact cl
      have hsc : X.env.scope = sc := fx.sc
      have hg : Gl X y := show X.env.scope.names.lookup _ = _ by rw [hsc]; exact glb_ok h1
      rw [List.all_cons, Bool.and_eq_true] at h3
      exact pe_callX tk cl' fx.room fx.gd hk hg (PA.noxD (sEs es h4 ne fx B)) (nodbg_ok h2).1 (star_ok h3.1) (any_ok h3.2)
    · cases h
def XS.pure (a : S) : XS where
  sh := fun N sc st => chkS N sc a st
  sem := zPure (evS a)
  need := fun G lv => needS G lv a
  ok := fun nd _ _ _ fx hk hf _ _ h B wx _ => ps_mono (PS.noxD (sS a h nd fx hk hf B)) txs_pure
def XS.exp (a : XE) : XS where
  sh := fun N sc st => match st with
    | .Expr e _ => notComp e && a.sh N sc e
    | _ => false
  sem := zExp a.sem
  need := a.need
  ok := fun nd _ _ _ fx hk hf hp st h B wx tk => by
    split at h
    · rw [Bool.and_eq_true] at h
      exact zs_exp (a.ok nd fx h.2 B wx tk) (swap_ok h.1)
    · cases h
def XS.ret (a : XE) : XS where
  sh := fun N sc st => match st with
    | .Return (some e) _ => a.sh N sc e
    | _ => false
  sem := zRet a.sem
  need := a.need
  ok := fun nd _ _ _ fx hk hf hp st h B wx tk => by
    split at h
    · exact zs_ret (a.ok nd fx h B wx tk)
    · cases h
def XS.set (i : Nat) (a : XE) : XS where
  sh := fun N sc st => match st with
    | .Assign [.Name x p] v _ => decide (N[i]? = some x) && locF sc x && notComp v && a.sh N sc v
    | _ => false
  sem := zSet i a.sem
  need := a.need
  ok := fun nd N sc X fx hk hf hp st h B wx tk => by
    split at h
    · simp only [Bool.and_eq_true, decide_eq_true_eq] at h
      obtain ⟨⟨⟨h1, h2⟩, h3⟩, h4⟩ := h
      have hN : X.N = N := fx.n
      have hsc : X.env.scope = sc := fx.sc
      exact zs_set (by rw [hN]; exact fx.nd) (by rw [hN]; exact h1) (by rw [hsc]; exact locF_ok h2) (a.ok nd fx h4 B wx tk) (swap_ok h3) (.inl (hf _))
    · cases h
def XSs.nil : XSs where
  sh := fun _ _ st => match st with
    | [] => true
    | _ => false
  sem := fun z => some (.out .nx, z)
  need := fun _ _ => True
  ok := fun _ _ _ _ _ _ _ _ st h B wx _ => by
    split at h
    · exact zs_nil
    · cases h
def XSs.cons (a : XS) (b : XSs) : XSs where
  sh := fun N sc st => match st with
    | s :: ss => a.sh N sc s && b.sh N sc ss
    | _ => false
  sem := zSeq a.sem b.sem
  need := fun G lv => a.need G lv ∧ b.need G lv
  ok := fun nd _ _ _ fx hk hf hp st h B wx tk => by
    split at h
    · rw [Bool.and_eq_true] at h
      exact zs_cons (a.ok nd.1 fx hk hf hp h.1 B wx tk) (b.ok nd.2 fx hk hf hp h.2 B wx tk)
    · cases h
/-- a block that raises nothing -/
def XSs.pure (a : Ss) : XSs where
  sh := fun N sc st => chkSs N sc a st
  sem := zPure (evSs a)
  need := fun G lv => needSs G lv a
  ok := fun nd _ _ _ fx hk hf _ _ h B wx _ => pss_mono (PSs.nox (sSs a h nd fx hk hf B)) txs_pure
def XS.ife (t : E) (a b : XSs) : XS where
  sh := fun N sc st => match st with
    | .If c xs ys _ => chkE N sc t c && a.sh N sc xs && b.sh N sc ys
    | _ => false
  sem := zIf (evT t) a.sem b.sem
  need := fun G lv => needE G lv t ∧ a.need G lv ∧ b.need G lv
  ok := fun nd _ _ _ fx hk hf hp st h B wx tk => by
    split at h
    · simp only [Bool.and_eq_true] at h
      exact zs_if (PT.nox (sT t h.1.1 nd.1 fx B)) (a.ok nd.2.1 fx hk hf hp h.1.2 B wx tk) (b.ok nd.2.2 fx hk hf hp h.2 B wx tk)
    · cases h
def XS.fors (it : IE) (g : Gt) (b : XSs) : XS where
  sh := fun N sc st => match st with
    | .For tg iter body [] _ => chkI N sc it iter tg && notSet iter && chkG N sc g tg && b.sh N sc body
    | _ => false
  sem := zFor (evI it) (evG g) b.sem
  need := fun G lv => needI G lv it ∧ needG G lv g ∧ b.need G lv
  ok := fun nd _ _ _ fx hk hf hp st h B wx tk => by
    split at h
    · simp only [Bool.and_eq_true] at h
      obtain ⟨⟨⟨h1, h2⟩, h3⟩, h4⟩ := h
      exact zs_for hp.po fx.calm (PI.noxD (sI it h1 nd.1 fx B)) (PG.noxD (sG g h3 nd.2.1 fx hf B)) (b.ok nd.2.2 fx hk hf hp h4 B wx tk) (fold_ok h2)
    · cases h
end DE
set_option Elab.async false
set_option linter.all false
set_option maxRecDepth 100000
set_option maxHeartbeats 4000000
namespace DE
open PySem PySem.Spec PyProof.Rows L2
theorem XcRep.dropT {W : Wd} {ι τ : List Addr} {H : Hp} {c : Nat} {fs : List (Nat × D)} {cls : Value} {d : Option Addr} (h : XcRep W (ι ++ τ) H c fs cls d) (n : nohF ι.length fs = true) : XcRep W ι H c fs cls d := by
  obtain ⟨C, h1, h2, h3⟩ := h
  exact ⟨C, h1, h2, h3.imp id fun ⟨dd, fvs, e1, e2, e3⟩ => ⟨dd, fvs, e1, e2, RepF.dropT _ e3 n⟩⟩
end DE
set_option Elab.async false
set_option linter.all false
set_option maxRecDepth 100000
set_option maxHeartbeats 4000000
namespace DE
open PySem PySem.Spec PyProof.Rows L2
theorem fx_eqs {G : GX} {lv : Nat} {N : List Str} {sc : Scope} {X : Cx} (fx : FitsX G lv N sc X) : X.prog = G.P ∧ X.w = G.w ∧ X.K = G.W.K ∧ X.mg = G.mg ∧ X.base = G.base ∧ X.env.scope = sc := ⟨fx.pr, fx.hw, fx.k, fx.mg, fx.bs, fx.sc⟩
end DE
set_option Elab.async false
set_option linter.all false
set_option maxRecDepth 100000
set_option maxHeartbeats 4000000
namespace DE
open PySem PySem.Spec PyProof.Rows L2
def okE (f : EvX) : Ev := fun z => (f z).bind fun x => match x.1 with
  | .ok d => some (d, x.2)
  | .ex _ _ => none
/-- .. as a tree -/
def XE.e (a : XE) : E := .xx a.sh (okE a.sem)
end DE
set_option Elab.async false
set_option linter.all false
set_option maxRecDepth 100000
set_option maxHeartbeats 8000000
namespace DE
open PySem PySem.Spec L2 L2H
end DE
set_option Elab.async false
set_option linter.all false
set_option maxRecDepth 100000
set_option maxHeartbeats 4000000
namespace DE
open PySem PySem.Spec PyProof.Rows L2 L2H
structure FnE (P : Program) (w : World) (K : PySem.W.Frag) (mg : Str → Option Value) (base : Heap) (k : Nat) (f : Addr) (fd : FuncData) (ps : List Str) (sp : Addr → Obj → Sp) : Prop where
  len : ∀ a oe vs H Q E, sp a oe vs H Q E → vs.length = ps.length
  run : ∀ (A : Around) (outer : List Env) (s : Shared) (H : Hp) (args : Args) (us : List Value) (vs : List V) (Q : VK) (E : XK) (p : Addr × Obj), RoomH k A → A.guards = some [] → PinOk outer H s p → Env0 P w K mg base A outer s H → BindsTo s fd args (ps.zip us) → Vals vs us → sp p.1 p.2 vs H Q E →
    codeAny (model P w) A (.call (.ref f) args) (CR L2.CX0 outer P w H s Q E) s
section
variable {P : Program} {w : World} {K : PySem.W.Frag} {mg : Str → Option Value} {base : Heap} {j k : Nat} {f : Addr} {fd : FuncData} {ps : List Str} {sp : Addr → Obj → Sp}
theorem FnE.mono (F : FnE P w K mg base j f fd ps sp) (h : j ≤ k) : FnE P w K mg base k f fd ps sp := ⟨F.len, fun A outer s H args us vs Q E p hr => F.run A outer s H args us vs Q E p (hr.mono h)⟩
end
end DE
set_option Elab.async false
set_option linter.all false
set_option maxRecDepth 100000
set_option maxHeartbeats 4000000
namespace DE
open PySem PySem.Spec PyProof.Rows L2 L2H
/-- slot i holds the exception at a -/
def isE (a : Addr) (i : Nat) (z : Z) : Bool := match z.1[i]? with
  | some (some (.obj b)) => b == a
  | _ => false
/-- the name of slot i -/
def nmB (N : List Str) (sc : Scope) (i : Nat) (x : Str) : Bool := decide (N[i]? = some x) && vis sc x && nodbg x
/-- isinstance(e, T): tb tells by the class -/
def hIsi (i : Nat) (T : Str) (tb : Nat → Bool) (a : Addr) (c : Nat) : E := .xx
  (fun N sc e => match e with
    | .Call (.Name y _) [.Name x _, .Name t _] [] _ => decide (y = "isinstance") && glb sc y && nmB N sc i x && decide (t = T) && glb sc t && nodbg t
    | _ => false)
  (fun z => if isE a i z = true then some (.bl (tb c), z) else none)
/-- e.f -/
def hFld (i : Nat) (f : Str) (k : Nat) (a : Addr) (fs : List (Nat × D)) : E := .xx
  (fun N sc e => match e with
    | .Attribute (.Name x _) g _ => decide (g = f) && nmB N sc i x
    | _ => false)
  (fun z => if isE a i z = true then (fs.lookup k).map fun d => (d, z) else none)
def hCallF (i n : Nat) (g : Addr → Nat → List (Nat × D) → Fn) (a : Addr) (c : Nat) (fs : List (Nat × D)) (f : EvA) : Ev := fun z => if isE a i z = true then (f z).bind fun x => (lendAll x.2 x.1).bind fun ds => if ds.length = n then (g a c fs ds x.2.2).map fun r => (r.1, (x.2.1, r.2)) else none else none
def hCall (f : Str) (i n : Nat) (g : Addr → Nat → List (Nat × D) → Fn) (es : Es) (a : Addr) (c : Nat) (fs : List (Nat × D)) : E := .xx
  (fun N sc e => match e with
    | .Call (.Name y _) (.Name x _ :: vs) [] _ => decide (y = f) && glb sc y && nodbg y && nmB N sc i x && vs.all notStar && chkEs N sc es vs
    | _ => false)
  (hCallF i n g a c fs (evEs es))
end DE
set_option Elab.async false
set_option linter.all false
set_option maxRecDepth 100000
set_option maxHeartbeats 4000000
namespace DE
open PySem PySem.Spec PyProof.Rows L2 L2H LamX
/-- an except clause: the classes it takes, the slot of its name, its suite -/
structure Cl where
  tb : Nat → Bool
  sl : Option Nat
  tr : Addr → Nat → List (Nat × D) → Ss
end DE
set_option Elab.async false
set_option linter.all false
set_option maxRecDepth 100000
set_option maxHeartbeats 4000000
namespace DE
open PySem PySem.Spec PyProof.Rows L2 L2H LamX
/-- the abstract heap behind the making of a lambda: as it was, or with one code object more, told in its table -/
def LamH (P : Addr) (q : Str) (H H1 : Hp) (c' : Addr) : Prop := (H1 = H ∧ H c' = some (CodeO c' q)) ∨ ∃ ps : Array Value, ∃ pos : Pos, H P = some (.tbl ps) ∧ H c' = none ∧ H1 = upd (upd H P (.tbl (ps ++ #[rawInt pos.line, rawInt pos.col, .ref c']))) c' (CodeO c' q)
theorem LamH.code {P : Addr} {q : Str} {H H1 : Hp} {c' : Addr} (h : LamH P q H H1 c') : H1 c' = some (CodeO c' q) := by
  rcases h with ⟨rfl, h⟩ | ⟨ps, pos, _, _, rfl⟩
  · exact h
  · exact upd_same
/-- all but the table stays; a table stays one -/
theorem LamH.kept {P : Addr} {q : Str} {H H1 : Hp} {c' : Addr} (h : LamH P q H H1 c') : ∀ b o, H b = some o → Kept o (H1 b) := fun b o e => by
  rcases h with ⟨rfl, h⟩ | ⟨ps, pos, hP, hc, rfl⟩
  · exact .inl e
  · rw [upd_ne (ne_of_none e hc)]
    by_cases hb : b = P
    · subst hb
      rw [hP] at e; cases e
      rw [upd_same]
      exact .inr ⟨rfl, _, rfl, rfl⟩
    · rw [upd_ne hb]; exact .inl e
theorem LamH.tabs {P : Addr} {q : Str} {H H1 : Hp} {c' : Addr} {T : List (Addr × Str)} (h : LamH P q H H1 c') (hu : ∀ p ∈ T, p.1 = P → p.2 = q) (hT : Tabs T H) : Tabs T H1 := by
  rcases h with ⟨rfl, h⟩ | ⟨ps, pos, hP, hc, rfl⟩
  · exact hT
  · intro p hp
    obtain ⟨qs, h1, h2, h3⟩ := hT p hp
    have kc : ∀ c0, H c0 = some (CodeO c0 p.2) → upd (upd H P (.tbl (ps ++ #[rawInt pos.line, rawInt pos.col, .ref c']))) c' (CodeO c' q) c0 = some (CodeO c0 p.2) := fun c0 e => by
      rw [upd_ne (ne_of_none e hc), upd_ne (fun z => by rw [z, hP] at e; exact codeO_ne _ (Option.some.inj e).symm)]; exact e
    by_cases hb : p.1 = P
    · rw [hb, hP] at h1
      cases h1
      refine ⟨_, by rw [hb, upd_ne (ne_of_none hP hc), upd_same], ?_, fun p' cv hcv => ?_⟩
      · have e : (ps ++ #[rawInt pos.line, rawInt pos.col, .ref c']).toList = ps.toList ++ [rawInt pos.line, rawInt pos.col, .ref c'] := by simp
        rw [e]; exact PySem.TriplesOk_snoc _ _ _ _ h2
      · have e : (ps ++ #[rawInt pos.line, rawInt pos.col, .ref c']).toList = ps.toList ++ [rawInt pos.line, rawInt pos.col, .ref c'] := by simp
        rw [e] at hcv
        rcases among_app _ h2 hcv with z | z
        · obtain ⟨c0, e1, e2⟩ := h3 p' cv z
          exact ⟨c0, e1, kc c0 e2⟩
        · exact ⟨c', z, by rw [upd_same, hu p hp hb]⟩
    · refine ⟨qs, by rw [upd_ne (ne_of_none h1 hc), upd_ne hb]; exact h1, h2, fun p' cv hcv => ?_⟩
      obtain ⟨c0, e1, e2⟩ := h3 p' cv hcv
      exact ⟨c0, e1, kc c0 e2⟩
end DE
set_option Elab.async false
set_option linter.all false
set_option maxRecDepth 100000
set_option maxHeartbeats 4000000
namespace DE
open PySem PySem.Spec PyProof.Rows L2 L2H LamX
end DE
set_option Elab.async false
set_option linter.all false
set_option maxRecDepth 100000
set_option maxHeartbeats 4000000
namespace DE
open PySem PySem.Spec PyProof.Rows L2 L2H LamX
theorem LamH.kp {P : Addr} {q : Str} {H H1 : Hp} {c' : Addr} (h : LamH P q H H1 c') {ι : List Addr} : Kp ι H ι H1 :=
  ⟨List.prefix_refl _, fun _ h n => absurd h n, fun b o e s => (h.kept b o e).eq (by cases o <;> first | rfl | cases s), fun b C dx fs e _ => (h.kept b _ e).eq rfl, fun b e => by
    cases q : H b with
    | none => rfl
    | some o => have := h.kept b o q; rw [e] at this; exact this.ne.elim⟩
theorem ZR.lam {W : Wd} {B : Bs} {ι : List Addr} {H H1 : Hp} {σ : L2.St} {z : Z} {P : Addr} {q : Str} {c' : Addr} (zr : ZR W B ι H σ z) (h : LamH P q H H1 c') (hu : ∀ p ∈ W.tb, p.1 = P → p.2 = q) : ZR W B ι H1 σ z := by
  refine ⟨zr.st.same (h.tabs hu zr.st.tb) h.kp (fun a ha o e => (h.kept a o e).eq ((zr.st.nte ha _ e).1)), zr.pre, zr.new, fun b o e n => (zr.keep b o e n).trans fun u hu => h.kept b u hu, zr.newP, fun b o e => (zr.keepP b o e).trans fun u hu => h.kept b u hu, zr.len, fun i dv x => ?_, zr.dis⟩
  obtain ⟨v, hv, r⟩ := zr.slot i dv x
  refine ⟨v, hv, r.same h.kp fun b o e m n => (h.kept b o e).eq ?_⟩
  cases o <;> first | rfl | exact m.elim
/-- what is made within the def x -/
abbrev GX.at_ (G : GX) (q : Str) : GX := @GX.mk G.P G.w G.mg G.base G.W q noCl
end DE
set_option Elab.async false
set_option linter.all false
set_option maxRecDepth 100000
set_option maxHeartbeats 4000000
namespace DE
open PySem PySem.Spec PyProof.Rows L2
theorem st_gc {W : Wd} {ι ι' : List Addr} {H H' : Hp} {S S2 : Store} (st : StRep W ι H S) (c : CKp ι H ι' H') (st' : StRep W ι' H' S2) (h2 : (S2.take S.length).all (nohM S.length) = true) (h3 : S.length ≤ S2.length) : CKp ι H ι H' ∧ StRep W ι H' (S2.take S.length) := by
  obtain ⟨τ, ht⟩ := c.pre
  subst ht
  refine ⟨⟨List.prefix_refl _, fun a ha nb => absurd ha nb, c.keep⟩, ⟨st'.tb, ?_, st.nd, fun m mo b e1 e2 => ?_⟩⟩
  · rw [List.length_take, ← st.len]; omega
  · have hm : m < S.length := by
      have := (List.getElem?_eq_some_iff.mp e1).1
      rw [List.length_take] at this
      omega
    have hmem : mo ∈ S2.take S.length := List.mem_of_getElem? e1
    rw [List.getElem?_take_of_lt hm] at e1
    refine (st'.at_ m mo b e1 (by rw [List.getElem?_append_left (by rw [← st.len]; exact hm)]; exact e2)).dropT ?_
    rw [List.all_eq_true] at h2
    have := h2 mo hmem
    rwa [st.len] at this
def nohX (n : Nat) : XR → Bool
  | .ok d => noh n d
  | .ex _ fs => nohF n fs
def gcX (g : FnX) : FnX := fun ds S => (g ds S).bind fun r => if (nohX S.length r.1 && (r.2.take S.length).all (nohM S.length)) = true ∧ S.length ≤ r.2.length then some (r.1, r.2.take S.length) else none
theorem spDX_gc {W : Wd} {n : Nat} {g : FnX} (vs : List V) (H : Hp) (Q : VK) (E : XK) (h : spDX W n (gcX g) vs H Q E) : spDX W n g vs H Q E := by
  obtain ⟨ι, S, ds, r, S', hl, rp, st, e, k⟩ := h
  unfold gcX at e
  cases e1 : g ds S with
  | none => rw [e1] at e; cases e
  | some x =>
    rw [e1, Option.bind_some] at e
    split at e
    · rename_i hh
      obtain ⟨r0, S2⟩ := x
      cases e
      rw [Bool.and_eq_true] at hh
      obtain ⟨⟨h1, h2⟩, h3⟩ := hh
      refine ⟨ι, S, ds, r0, S2, hl, rp, st, e1, ?_⟩
      have back : ∀ {ι' : List Addr} {H' : Hp}, CKp ι H ι' H' → StRep W ι' H' S2 → CKp ι H ι H' ∧ StRep W ι H' (S2.take S.length) := fun c st' => st_gc st c st' h2 h3
      cases r0 with
      | ok d =>
        exact fun v ι' H' c st' p rv => by
          obtain ⟨τ, ht⟩ := c.pre
          have b := back c st'
          subst ht
          exact k v ι H' b.1 b.2 p (Rep.dropT _ rv (show noh ι.length d = true from st.len ▸ h1))
      | ex c0 fs =>
        exact fun cls d ι' H' c st' xc => by
          obtain ⟨τ, ht⟩ := c.pre
          have b := back c st'
          subst ht
          exact k cls d ι H' b.1 b.2 (xc.dropT (show nohF ι.length fs = true from st.len ▸ h1))
    · cases e
theorem FnGX.imp {P : Program} {w : World} {K : PySem.W.Frag} {mg : Str → Option Value} {base : Heap} {k : Nat} {f : Addr} {fd : FuncData} {ps : List Str} {sp sp' : Sp} (F : FnGX P w K mg base k f fd ps sp) (h : ∀ vs H Q E, sp' vs H Q E → sp vs H Q E) : FnGX P w K mg base k f fd ps sp' :=
  ⟨fun vs H Q E q => F.len vs H Q E (h _ _ _ _ q), fun A outer s H args us vs Q E hr hg e0 hb r q => F.run A outer s H args us vs Q E hr hg e0 hb r (h _ _ _ _ q)⟩
theorem FnGX.gc {P : Program} {w : World} {K : PySem.W.Frag} {mg : Str → Option Value} {base : Heap} {W : Wd} {k n : Nat} {f : Addr} {fd : FuncData} {ps : List Str} {g : FnX} (F : FnGX P w K mg base k f fd ps (spDX W n g)) : FnGX P w K mg base k f fd ps (spDX W n (gcX g)) := F.imp spDX_gc
end DE
set_option Elab.async false
set_option linter.all false
set_option maxRecDepth 100000
set_option maxHeartbeats 4000000
namespace DE
open PySem PySem.Spec PyProof.Rows L2 LamX
/-- what is tracked when the law is called: the script, the empty tables -/
structure AtLaw (cs : List (Addr × Addr)) (a : Addr) (H : Hp) : Prop where
  only : ∀ b u, H b = some u → (b = a ∧ ∃ o xs, u = .frz o (.lst xs)) ∨ (u = .tbl #[] ∧ ∃ p ∈ cs, p.2 = b)
  tab : ∀ p ∈ cs, H p.2 = some (.tbl #[])
section
variable {P : Program} {w : World} {K : PySem.W.Frag} {mg mb : Str → Option Value} {k : Nat} {fa a : Addr} {cs : List (Addr × Addr)} {fd : FuncData} {x : Str} {sp : Sp} {s₁ : Shared} {H : Hp} {ls : Array Value}
/-- what is of another kind is not tracked -/
theorem AtLaw.none_ (L : AtLaw cs a H) (ok : HOk P w H s₁.heap) (ha : s₁.heap.get? a = some { cls := .type "list", data := .seq ls }) {b : Addr} {o : Obj} (e : s₁.heap.get? b = some o) (h1 : ∀ vs n, o.data ≠ .seq vs n) (h2 : o.data ≠ .fields #[]) : H b = none := by
  cases q : H b with
  | none => rfl
  | some u =>
    rcases L.only b u q with ⟨rfl, _⟩ | ⟨rfl, _⟩
    · rw [ha] at e; cases e; exact absurd rfl (h1 _ _)
    · have z : s₁.heap.get? b = some { cls := .none, data := .fields #[] } := ok b _ q
      rw [z] at e; cases e; exact absurd rfl h2
theorem AtLaw.env (L : AtLaw cs a H) (ok : HOk P w H s₁.heap) (ha : s₁.heap.get? a = some { cls := .type "list", data := .seq ls }) (hK : H a ≠ none → K.lookup a = none) (nT : ∀ p ∈ cs, K.lookup p.2 = none)
    (KX : K.In s₁.heap) (hns : s₁.heap.Ns mainGlobals mg) (hb : s₁.heap.Ns builtinsNs mb) (hbb : ∀ x : Str, x ≠ "__name__" → mb x = bootBuiltins x) (hlim : s₁.heap.NoLimit) (hg : s₁.gens = #[]) :
    K.In (hidT s₁.heap H) ∧ (hidT s₁.heap H).Ns mainGlobals mg ∧ Env0 P w K mg (hidT s₁.heap H) callerA [] s₁ H := by
  have ns : ∀ {b : Addr} {m : Str → Option Value}, s₁.heap.Ns b m → (hidT s₁.heap H).Ns b m := fun {b m} ⟨o, es, ep, e, d, r⟩ => ⟨o, es, ep, hidT_get e (L.none_ ok ha e (fun vs n z => by rw [d] at z; cases z) fun z => by rw [d] at z; cases z), d, r⟩
  have kin : K.In (hidT s₁.heap H) := fun b o e => hidT_get (KX b o e) (by
    cases q : H b with
    | none => rfl
    | some u =>
      rcases L.only b u q with ⟨rfl, _⟩ | ⟨_, p, hp, rfl⟩
      · rw [hK (by rw [q]; simp)] at e; cases e
      · rw [nT p hp] at e; cases e)
  have md : Mod K mg (hidT s₁.heap H) := ⟨kin, ns hns, ⟨mb, ns hb, hbb⟩, let ⟨mc, h1, h2⟩ := hlim; ⟨mc, ns h1, h2⟩⟩
  exact ⟨kin, ns hns, rfl, md, fun b o e => of_hidT e, Nat.le_of_eq (hidT_size _ _), trivial, fun b hb => absurd (show b ∈ ([] : List Addr) from hb) (by simp), ok, .of_eq hg⟩
end
end DE
set_option Elab.async false
set_option linter.all false
set_option maxRecDepth 100000
set_option maxHeartbeats 4000000
namespace DE
open PySem PySem.Spec PyProof.Rows L2 L2H LamX
def exB (ve : Bool) (K : PySem.W.Frag) (C : Addr) : Bool :=
  PySem.W.excInitIn K C (if ve then veMro else aeMro) (if ve then "ValueError.__new__" else "ArithmeticError.__new__") && (He.eqO (PySem.W.findIn K (.ref C) "__setattr__") (some (some (.builtin "object.__setattr__"))) && (He.eqO (PySem.W.findIn K (.ref C) "__getattribute__") (some (some (.builtin "BaseException.__getattribute__"))) &&
  (He.eqO (PySem.W.findIn K (.ref C) "__getattr__") (some none) && (He.eqO (PySem.W.findIn K (.ref C) "__class__") (some (some (.builtin "object.__class__"))) && (He.eqO (PySem.W.specialIn K (.builtin "object.__class__") "__get__") (some (some (.builtin "getset_descriptor.__get__"))) &&
  (decide (PySem.W.takesIn K (.builtin "object.__class__") = some true) && (decide (PySem.W.mroIn K C (.type "object") = some true) && (decide (PySem.W.subIn K (.ref C) (.type "BaseException") = some true) && (decide (PySem.W.typeIn K (.ref C) = some (.type "type")) && (PySem.W.keepIn K (.ref C) && PySem.W.hasDictIn K C))))))))))
def xc1B (K : PySem.W.Frag) (x f : Str) : Bool := ini1B K (He.ma K (He.ga K x) "__init__") f && (He.eqO (PySem.W.findIn K (.ref (He.ga K x)) "__init__") (some (some (.ref (He.ma K (He.ga K x) "__init__")))) &&
  (decide (PySem.W.typeIn K (.ref (He.ma K (He.ga K x) "__init__")) = some (.type "function")) && He.eqO (PySem.W.findIn K (.ref (He.ga K x)) f) (some none)))
def xc0B (ve : Bool) (K : PySem.W.Frag) (x : Str) : Bool := PySem.W.excIn K (He.ga K x) (if ve then veMro else aeMro) (if ve then "ValueError.__new__" else "ArithmeticError.__new__")
def tbx (l : List Nat) (c : Nat) : Bool := l.contains c
/-- whose instances are whose: T, the numbers of the classes below it -/
def kitsB (K : PySem.W.Frag) (cn : List (Nat × Str)) (kt : List (Str × List Nat)) : Bool := kt.all fun t => cn.all fun p => decide (PySem.W.kitOne K (.ref (He.ga K p.2)) (.ref (He.ga K t.1)) = some (tbx t.2 p.1))
end DE
set_option Elab.async false
set_option linter.all false
set_option maxRecDepth 100000
set_option maxHeartbeats 4000000
namespace DE
open PySem PySem.Spec PyProof.Rows L2
end DE
set_option Elab.async false
set_option linter.all false
set_option maxRecDepth 100000
set_option maxHeartbeats 4000000
namespace DE
open PySem PySem.Spec PyProof.Rows L2 Calls
structure Rep1 (K : PySem.W.Frag) (g : Addr) (p f q : Str) : Prop where
  fn : ∃ (nm qn : Str) (more : _) (od : Option Addr) (doc pm kV : Value) (an : Option Addr) (cdv ct : Value) (osl : Array (Option Value)) (p1 q1 q2 q3 q4 q5 q6 q7 q8 q9 : Pos),
    K.lookup g = some ⟨.type "function", od, .func (PySem.W.fnOf nm qn ⟨[], [⟨"self", none, p1⟩], none, [], [], none, []⟩ [.Return (some (.JoinedStr [.Constant (.str p) 0 q1, .FormattedValue (.Call (.Name "len" q2) [.Attribute (.Name "self" q3) f q4] [] q5) (-1) none q6, .Constant (.str q) 0 q7] q8)) q9] ⟨.function, [("self", .local), ("len", .globalImplicit)], false, false, more⟩ .none kV doc pm an cdv ct), osl⟩ ∧ PySem.W.codeIn K cdv qn = true
theorem nat_txt : ∀ n : _root_.Fin 1001, ((toString ((n.val : Nat) : Int) : String) : Str).length ≤ 10 := by decide +kernel
section
variable {prog : Program} {w : World} {A : Around} {K : PySem.W.Frag} {mg mb : Str → Option Value} {s : Shared} {g a C dx t : Addr} {items : Array Value} {mA : Str → Option Value} {p f q : Str} {R : Result → Shared → Prop}
theorem rep1_call (F : Rep1 K g p f q) (KX : K.In s.heap) (hns : s.heap.Ns mainGlobals mg) (hl : mg "len" = none) (hb : s.heap.Ns builtinsNs mb) (hbl : mb "len" = bootBuiltins "len") (lim : s.heap.NoLimit) (O : ObjM s.heap a dx C mA) (c : Cls K C) (na : PySem.W.findIn K (.ref C) f = some none) (hF : mA f = some (.ref t))
    (ht : IsTup s.heap t items) (hz : items.size ≤ 1000) (hp : p.length ≤ 1000) (hqz : q.length ≤ 1000) (hd : A.depth < recursionLimit)
    (hq : ∀ h' tk tok, (∀ b o, s.heap.get? b = some o → h'.get? b = some o) → R (.ok (.ret (.str (Str.empty ++ p ++ (toString (items.size : Int) : String) ++ q) tok))) { s with heap := h', toks := tk }) :
    codeAny (model prog w) A (.call (.ref g) ⟨[.ref a], []⟩) R s := by
  obtain ⟨nm, qn, more, od, doc, pm, kV, an, cdv, ct, osl, p1, q1, q2, q3, q4, q5, q6, q7, q8, q9, lk, hcd⟩ := F.fn
  refine codeAny_call_straight (binds := [("self", .ref a)]) hd (KX _ _ lk) rfl lim (PySem.W.codeRec_of KX hcd) rfl rfl (fun x hx => ?_) (fun x hx => ?_) fun s1 x => ?_
  · simp only [PySem.W.fnOf, List.mem_cons, List.not_mem_nil, or_false] at hx
    rcases hx with rfl | rfl <;> simp
  · simp only [List.mem_cons, List.not_mem_nil, or_false] at hx
    subst hx
    rfl
  · refine wpAny_execs_cons (wpAny_Return_some ?_)
    refine wpAny_JoinedStr ?_
    have hin : ((items.size : Nat) : Int).natAbs.log2 < 1920 := by
      rw [Int.natAbs_natCast]
      exact Nat.lt_of_le_of_lt (Nat.log2_le_self _) (by omega)
    have hts : ((toString ((items.size : Nat) : Int) : String) : Str).length ≤ 10 := nat_txt ⟨items.size, by omega⟩
    have hln : ∀ x y : Str, (x ++ y).length = x.length + y.length := fun x y => by show (x.cps ++ y.cps).size = _; rw [Array.size_append]; rfl
    have he0 : Str.empty.length = 0 := rfl
    have hsl : sizeLine = 16777216 := sizeLine_eq
    refine wpAny_Constant_str ⟨p, _, rfl, by rw [hln]; omega, ?_⟩
    have x1 := x.tok (s1.toks + 1)
    refine wpAny_FormattedValue_plain (wpAny_Call_Name_kw (Name_function_global rfl rfl (loadGlobal_builtin (hns.keeps x1.keep) hl (hb.keeps x1.keep) hbl ?_) (by decide)))
    refine PyProof.Rows.callWith_builtin1 ?_ rfl rfl
    refine spliced_cons (attr_of (base_ok rfl) (ldI x1 rfl rfl (v := .ref a) (by simp) ?_ (by decide)))
    have O1 : ObjM s1.heap a dx C mA := ⟨x1.keep _ _ O.obj, (let ⟨o, es, ep, ho, r⟩ := O.ns; ⟨o, es, ep, x1.keep _ _ ho, r⟩), O.ne⟩
    refine get_map (PySem.W.Frag.In.keeps KX x1.keep) O1 (c.get f) c.hd na hF rfl ?_
    refine spliced_nil ?_
    refine PyProof.Rows.len_tuple (items := items) (ht.keeps x1.keep) (by omega) ?_
    refine wpAny_formatField_int hin ⟨_, _, rfl, by rw [hln, hln]; omega, ?_⟩
    refine wpAny_Constant_str ⟨q, _, rfl, by rw [hln, hln, hln]; omega, ?_⟩
    obtain ⟨h', tk, e, kp⟩ := x.done
    refine ⟨by rw [hln, hln, hln]; omega, ?_⟩
    subst e
    exact hq h' _ _ kp
end
end DE
set_option Elab.async false
set_option linter.all false
set_option maxRecDepth 100000
set_option maxHeartbeats 4000000
namespace DE
open PySem PySem.Spec PyProof.Rows L2 Calls Builtin Builtin.List
end DE
set_option Elab.async false
set_option linter.all false
set_option maxRecDepth 100000
set_option maxHeartbeats 4000000
namespace DE
open PySem PySem.Spec PyProof.Rows L2 Calls PySem.W
section
variable {prog : Program} {w : World} {A : Around} {E : Value → Shared → Prop} {s : Shared} {K : PySem.W.Frag} {x C f : Addr} {ox : Obj} {od : Option Obj} {t : Str}
/-- where the class's own __repr__ stands -/
structure OwnR (K : PySem.W.Frag) (C f : Addr) : Prop where
  at_ : findIn K (.ref C) "__repr__" = some (some (.ref f))
  fn : isFn K (.ref f) = true
end
/-- what the repr of an own object leans on, in a heap -/
structure OwnAt (K : PySem.W.Frag) (mg mb : Str → Option Value) (p q : Str) (n : Nat) (h : Heap) (a : Addr) : Prop where
  ex : ∃ (g C dx t : Addr) (mA : Str → Option Value) (items : Array Value) (f : Str), Rep1 K g p f q ∧ OwnR K C g ∧ ObjM h a dx C mA ∧ Cls K C ∧ findIn K (.ref C) f = some none ∧ mA f = some (.ref t) ∧ IsTup h t items ∧ items.size = n
  kin : K.In h
  ns : h.Ns mainGlobals mg
  ln : mg "len" = none
  blt : h.Ns builtinsNs mb
  bl : mb "len" = bootBuiltins "len"
  lim : h.NoLimit
  n1 : n ≤ 1000
  p1 : p.length ≤ 1000
  q1 : q.length ≤ 1000
theorem OwnAt.keeps {K : PySem.W.Frag} {mg mb : Str → Option Value} {p q : Str} {n : Nat} {h h' : Heap} {a : Addr} (o : OwnAt K mg mb p q n h a) (k : ∀ b o, h.get? b = some o → h'.get? b = some o) : OwnAt K mg mb p q n h' a := by
  obtain ⟨⟨g, C, dx, t, mA, items, f, h1, h2, h3, h4, h5, h6, h7, h8⟩, kin, ns, ln, blt, bl, lim, n1, p1, q1⟩ := o
  exact ⟨⟨g, C, dx, t, mA, items, f, h1, h2, ⟨k _ _ h3.obj, (let ⟨o, es, ep, ho, r⟩ := h3.ns; ⟨o, es, ep, k _ _ ho, r⟩), h3.ne⟩, h4, h5, h6, h7.keeps k, h8⟩, kin.keeps k, ns.keeps k, ln, blt.keeps k, bl, lim.keeps k, n1, p1, q1⟩
abbrev ownText (p q : Str) (n : Nat) : Str := Str.empty ++ p ++ (toString ((n : Nat) : Int) : String) ++ q
section
variable {prog : Program} {w : World} {A : Around} {E : Value → Shared → Prop} {s : Shared} {K : PySem.W.Frag} {mg mb : Str → Option Value} {p q : Str} {n : Nat} {a : Addr} {Q : Value → Shared → Prop}
theorem OwnAt.call {g : Addr} (o : OwnAt K mg mb p q n s.heap a) (hg : ∃ C dx mA, ObjM s.heap a dx C mA ∧ OwnR K C g) (hd : A.depth < recursionLimit) (hq : ∀ h' tk tok, (∀ b o, s.heap.get? b = some o → h'.get? b = some o) → Q (.str (ownText p q n) tok) { s with heap := h', toks := tk }) : wpAny (model prog w) A (call (.ref g) [.ref a]) Q E s := by
  obtain ⟨⟨g', C, dx, t, mA, items, f, h1, h2, h3, h4, h5, h6, h7, h8⟩, kin, ns, ln, blt, bl, lim, n1, p1, q1⟩ := o
  obtain ⟨C2, dx2, mA2, e1, e2⟩ := hg
  have eC : C2 = C := by
    have z := e1.obj.symm.trans h3.obj
    have z2 := congrArg Obj.cls (Option.some.inj z)
    exact Value.ref.inj z2
  subst eC
  have eg : g = g' := by
    have z := e2.at_.symm.trans h2.at_
    exact Value.ref.inj (Option.some.inj (Option.some.inj z))
  subst eg
  refine wpAny_call (rep1_call h1 kin ns ln blt bl lim h3 h4 h5 h6 h7 (by omega) p1 q1 hd fun h' tk tok kp => ?_)
  rw [h8]
  exact hq h' tk tok kp
end
end DE
set_option Elab.async false
set_option linter.all false
set_option maxRecDepth 100000
set_option maxHeartbeats 4000000
namespace DE
open PySem PySem.Spec PyProof.Rows L2 Calls
/-- a tuple of n -/
def TupH (H : Hp) (t : Addr) (n : Nat) : Prop := ∃ xs : List V, xs.length = n ∧ (H t = some (.tup xs) ∨ ∃ o, H t = some (.frz o (.tup xs)))
/-- an own object, with what its repr leans on -/
structure OwnH (K : PySem.W.Frag) (mg : Str → Option Value) (p q : Str) (n : Nat) (H : Hp) (a : Addr) : Prop where
  ex : ∃ (g C dx t : Addr) (fs : List (Str × V)) (f : Str), H a = some (.ins C dx fs) ∧ Rep1 K g p f q ∧ OwnR K C g ∧ Cls K C ∧ PySem.W.findIn K (.ref C) f = some none ∧ fs.lookup f = some (.ref t) ∧ TupH H t n
  ln : mg "len" = none
  n1 : n ≤ 1000
  p1 : p.length ≤ 400
  q1 : q.length ≤ 400
section
variable {X : Cx} {pins : List (Addr × Obj)} {σ : L2.St} {H : Hp} {s : Shared} {p q : Str} {n : Nat} {a : Addr}
theorem OwnH.at_ (o : OwnH X.K X.mg p q n H a) (I : Inv X pins σ H s) : ∃ mb, OwnAt X.K X.mg mb p q n s.heap a := by
  obtain ⟨g, C, dx, t, fs, f, h1, h2, h3, h4, h5, h6, xs, h7, h8⟩ := o.ex
  obtain ⟨mA, O, r, _, _, _⟩ := ins_get I.hok h1
  obtain ⟨u, hu, ru⟩ := RelO.some_of (v := .ref t) (o := mA f) (by rw [← h6]; exact r f)
  obtain rfl : u = Value.ref t := ru
  have ht : ∃ its : List Value, Vals xs its ∧ IsTup s.heap t its.toArray := by
    rcases h8 with h8 | ⟨ob, h8⟩
    · obtain ⟨_, its, r1, r2⟩ := (show ObjOk X.prog X.w H s.heap t (.tup xs) from I.hok t _ h8)
      exact ⟨its, r1, r2⟩
    · obtain ⟨_, _, its, r1, r2⟩ := (show ObjOk X.prog X.w H s.heap t (.frz ob (.tup xs)) from I.hok t _ h8)
      exact ⟨its, r1, r2⟩
  obtain ⟨its, rv, it⟩ := ht
  obtain ⟨mb, b1, b2⟩ := I.mod.blt
  refine ⟨mb, ⟨g, C, dx, t, mA, its.toArray, f, h2, h3, O, h4, h5, hu, it, ?_⟩, I.kIn, I.mod.glob.keeps I.bk, o.ln, b1.keeps I.bk, b2 "len" (by decide), I.mod.nolimit.keeps I.bk, o.n1, Nat.le_trans o.p1 (by decide), Nat.le_trans o.q1 (by decide)⟩
  rw [List.size_toArray, ← rv.length, h7]
end
end DE
set_option Elab.async false
set_option linter.all false
set_option maxRecDepth 100000
set_option maxHeartbeats 4000000
namespace DE
open PySem PySem.Spec PyProof.Rows L2 L2H Calls
end DE
set_option Elab.async false
set_option linter.all false
set_option maxRecDepth 100000
set_option maxHeartbeats 4000000
namespace DE
open PySem PySem.Spec L2
end DE
set_option Elab.async false
set_option linter.all false
set_option maxRecDepth 100000
set_option maxHeartbeats 4000000
namespace DE
open PySem PySem.Spec PyProof.Rows L2 L2H Calls
end DE
set_option Elab.async false
set_option linter.all false
set_option maxRecDepth 100000
set_option maxHeartbeats 4000000
namespace DE
open PySem PySem.Spec PyProof.Rows L2 LamX
/-- a block that is never reached: any text -/
def XSs.stop : XSs where
  sh := fun _ _ _ => true
  sem := fun _ => none
  need := fun _ _ => True
  ok := fun _ _ _ _ _ _ _ _ st _ B wx _ => ⟨fun pins s σ H D I q => by obtain ⟨ι, z, fl, z', _, e, _⟩ := q; cases e⟩
end DE
namespace DE
end DE
set_option Elab.async false
set_option linter.all false
set_option maxRecDepth 100000
set_option maxHeartbeats 4000000
namespace KK
open PySem DE
end KK
set_option Elab.async false
set_option linter.all false
set_option maxRecDepth 100000
set_option maxHeartbeats 4000000
namespace DE
open PySem PySem.Spec PyProof.Rows L2
end DE
set_option Elab.async false
set_option linter.all false
set_option maxRecDepth 100000
set_option maxHeartbeats 4000000
namespace DE
open PySem PySem.Spec PyProof.Rows L2 L2H
def kitbB (K : PySem.W.Frag) (cn : List (Nat × Str)) (kb : List (String × List Nat)) : Bool := kb.all fun t => cn.all fun p => decide (PySem.W.kitOne K (.ref (He.ga K p.2)) (.type t.1) = some (tbx t.2 p.1))
end DE
set_option Elab.async false
set_option linter.all false
set_option maxRecDepth 100000
set_option maxHeartbeats 4000000
namespace KK
open PySem DE
end KK
set_option Elab.async false
set_option linter.all false
set_option maxRecDepth 100000
set_option maxHeartbeats 4000000
namespace DE
open PySem PySem.Spec PyProof.Rows L2
end DE
set_option Elab.async false
set_option linter.all false
set_option maxRecDepth 100000
set_option maxHeartbeats 4000000
namespace PySem.W
open PySem PySem.Spec PySem.Calls PyProof.Rows
section
variable {prog : Program} {w : World} {A : Around} {E : Value → Shared → Prop} {s : Shared} {K : Frag} {x C f : Addr} {ox : Obj} {od : Option Obj}
open Builtin Builtin.Str in
theorem dx_strT {v : Value} {Q : Value → Shared → Prop} (key : wpAny (model prog w) A.in1.in1 (PySem.Builtin.Str.strOf v) (fun r s₁ => ∃ y u, r = .str y u ∧ Q r s₁) E s) : wpAny (model prog w) A (call (.type "str") [v]) Q E s := by
  refine callType_codes (T := "str") (Bi := Builtin.«object.__init__») (Q₁ := fun r s₁ => ∃ y u, r = .str y u ∧ Q r s₁) PySem.F.called_str (PySem.F.typeCall_str_1 _) PySem.F.entry_object_init ?_ ?_
  · refine codeAny_of_tree ?_
    show wpAny _ A.in1.in1 (do checkBuiltinCall "str.__new__" ⟨[.type "str", v], []⟩; again (.builtin "str.__new__" ⟨[.type "str", v], []⟩)) _ _ s
    refine wpAny_bind (wpAny_of_eq (PySem.F.newCall_str_1 _) (wpAny_pure ⟨plainId_quiet (by decide +kernel) _, codeAny_builtin PySem.F.entry_str_new ?_⟩))
    rw [Around.under_plainId (by decide +kernel) _]
    rw [str_new_tree]
    refine wpAny_bind (wpAny_pure ?_)
    refine wpAny_bind (wpAny_of_eq isSubtype_str_str ?_)
    exact wpAny_bind (wpAny_mono key (fun r s₁ hr => wpAny_pure hr) fun _ _ y => y)
  · rintro obj s₁ ⟨y, u, rfl, hq⟩
    exact ⟨typeIs_str _ _ _, PySem.F.args_object_init_2 _ _, object_init_meets PySem.F.called_str.init.lookup PySem.F.called_str.made (by decide) prog w A.in1 _ s₁ ⟨typeIs_str _ _ _, rfl, hq⟩⟩
open Builtin Builtin.Str in
theorem dx_strS {y : Str} {t : Nat} {Q : Value → Shared → Prop} (h : Q (.str y t) s) : wpAny (model prog w) A (call (.type "str") [.str y t]) Q E s := by
  refine dx_strT ?_
  unfold PySem.Builtin.Str.strOf
  rw [show isExactStr (.str y t) = true from rfl]
  exact wpAny_pure ⟨_, _, rfl, h⟩
open Builtin Builtin.Str in
theorem dx_strO {Q : Value → Shared → Prop} (hu : A.in1.in1.units < cLine) (X : K.In s.heap) (I : InstAt s.heap x ox C od) (hs : findIn K (.ref C) "__str__" = some (some (.ref f))) (hf : isFn K (.ref f) = true)
    (h : wpAny (model prog w) A.in1.in1 (call (.ref f) [.ref x]) (StrBack Q) E s) : wpAny (model prog w) A (call (.type "str") [.ref x]) Q E s := by
  refine dx_strT ?_
  unfold PySem.Builtin.Str.strOf
  rw [show isExactStr (.ref x) = false from rfl]
  refine wpAny_bind (m := cRoomFor _ _) (wpAny_cRoomFor hu ?_)
  refine wpAny_bind (m := callSpecial? (.ref x) (Str.ofString "__str__")) (special_fn X I hs (beq_iff_eq.mp hf) (wpAny_mono h (fun r s' z => ?_) fun _ _ y => y))
  cases r <;> first | exact z.elim | exact wpAny_pure ⟨_, _, rfl, z⟩
end
end PySem.W
namespace DE
open PySem PySem.Spec PyProof.Rows L2
/-- what str(x) takes -/
def StrR (W : Wd) (tb : List (Nat × Fn)) (vs : List V) (H : Hp) (Q : VK) : Prop :=
  (∃ i, vs = [.int i] ∧ i.natAbs.log2 < 1920 ∧ Q (.str (toString i)) H) ∨ (∃ y, vs = [.str y] ∧ Q (.str y) H) ∨
  ∃ a c C dx fvs g, vs = [.ref a] ∧ tb.lookup c = some g ∧ W.cls c = some C ∧ H a = some (.ins C dx fvs) ∧ spD W 1 g [.ref a] H (fun v H' => ∃ y, v = .str y ∧ Q v H') (fun _ _ _ => False)
theorem str_own {X : Cx} {W : Wd} {lv : Nat} {tb : List (Nat × Fn)} (hr : Room (lv + 2) X.A) (hgd : X.A.guards = some []) (hM : ∀ c g, tb.lookup c = some g → ∃ k, k ≤ lv ∧ Mth X.prog X.w X.K X.mg X.base W k c "__str__" 0 g) : CallR X (.type "str") (StrR W tb) := by
  intro pins s σ H xs us Q I r h
  rcases h with h | h | h
  · exact call_str_int pins s σ H xs us Q I r h
  · obtain ⟨y, rfl, q⟩ := h
    obtain ⟨u, rfl, t, rfl⟩ := vals1 r
    exact PySem.W.dx_strS ⟨.str _, H, I, ⟨_, rfl⟩, q⟩
  · obtain ⟨a, c, C, dx, fvs, g, rfl, hc, hC, e, q⟩ := h
    obtain ⟨u, rfl, r0⟩ := vals1 r
    obtain rfl : u = .ref a := r0
    obtain ⟨k, hk, M⟩ := hM c g hc
    obtain ⟨C', f, fd, ps, F, hC', hm, bi⟩ := M.ex
    rw [hC] at hC'; cases hC'
    obtain ⟨mA, O, _⟩ := ins_get I.hok e
    obtain ⟨od, J, _⟩ := O.look
    refine PySem.W.dx_strO (by have := (Room.in1 (Room.in1 hr)).un; omega) I.kIn J hm.at_ hm.fn ?_
    have hB := bi s [.ref a] I.kIn (by rw [← F.len _ _ _ _ q]; rfl)
    rw [List.append_nil] at hB
    refine wpAny_call (codeAny_mono (back0 I (F.run X.A.in1.in1 X.stack s H ⟨[.ref a], []⟩ [.ref a] [.ref a] _ _ ((Room.in1 (Room.in1 hr)).mono hk) hgd I.env0.in1.in1 hB (.cons rfl .nil) q)) fun r s' hq => ?_)
    cases r with
    | error e => exact hq
    | ok fl =>
      cases fl with
      | ret u =>
        obtain ⟨v, H1, I1, rv, y, rfl, q1⟩ := hq
        obtain ⟨t, rfl⟩ := rv
        exact ⟨.str y, H1, I1, ⟨t, rfl⟩, q1⟩
      | _ => exact hq.elim
/-- str(x) on data: x a number, a text, or an object whose class is in the table -/
def strB (ρ : Rho) : D × Store → Option (D × Z)
  | (.str s, S) => some (.str s, (ρ, S))
  | _ => none
def strA (tb : List (Nat × Fn)) (z : Z) (d : D) : Option (D × Z) := match d with
  | .int i => (strID (.int i)).map fun r => (r, z)
  | .str s => some (.str s, z)
  | d => (clsOf z d).bind fun c => (tb.lookup c).bind fun g => (g [d] z.2).bind (strB z.1)
theorem clsOf_obj {W : Wd} {B : Bs} {ι : List Addr} {H : Hp} {σ : L2.St} {z : Z} {d : D} {v : V} {c : Nat} (zr : ZR W B ι H σ z) (r : XRep W ι H σ d v) (e : clsOf z d = some c) :
    ∃ a C dx fvs, v = .ref a ∧ W.cls c = some C ∧ H a = some (.ins C dx fvs) ∧ Rep W ι H d v ∧ d.plain = true := by
  cases d with
  | ins c' fs =>
    cases e
    obtain ⟨p, r⟩ := r
    have r0 := r
    unfold Rep at r
    obtain ⟨a, C', dx, fvs, ev, hc', ha, hn, cl, rf⟩ := r
    exact ⟨a, C', dx, fvs, ev, hc', ha, r0, p⟩
  | han n =>
    obtain ⟨p, r⟩ := r
    have r0 := r
    unfold Rep at r
    obtain ⟨a, ha, ev⟩ := r
    replace e : (match z.2[n]? with
      | some (.ins c _) => some c
      | _ => none) = some c := e
    split at e
    · rename_i c' fs hn
      cases e
      obtain ⟨C', dx, fvs, hc', hh, cl, rf⟩ := zr.st.at_ n _ a hn ha
      exact ⟨a, C', dx, fvs, ev, hc', hh, r0, p⟩
    · cases e
  | _ => cases e
theorem strOb {W : Wd} {B : Bs} {tb : List (Nat × Fn)} {ι ι1 : List Addr} {H H1 : Hp} {σ : L2.St} {z1 : Z} {d0 d : D} {z' : Z} {v : V} {Q : VK} (k1 : Kp ι H ι1 H1) (r : XRep W ι1 H1 σ d0 v) (zr1 : ZR W B ι1 H1 σ z1)
    (e : ((clsOf z1 d0).bind fun c => (tb.lookup c).bind fun g => (g [d0] z1.2).bind (strB z1.1)) = some (d, z')) (kk : ∀ v ι' H', Kp ι H ι' H' → XRep W ι' H' σ d v → ZR W B ι' H' σ z' → Q v H') : StrR W tb [v] H1 Q := by
  cases ec : clsOf z1 d0 with
  | none => rw [ec] at e; cases e
  | some c =>
    rw [ec, Option.bind_some] at e
    cases eg : tb.lookup c with
    | none => rw [eg] at e; cases e
    | some g =>
      rw [eg, Option.bind_some] at e
      cases er : g [d0] z1.2 with
      | none => rw [er] at e; cases e
      | some x =>
        rw [er, Option.bind_some] at e
        obtain ⟨x1, x2⟩ := x
        cases x1 with
        | str s =>
          cases e
          obtain ⟨a, C, dx, fvs, rfl, hC, hh, rr, pp⟩ := clsOf_obj zr1 r ec
          refine .inr (.inr ⟨a, c, C, dx, fvs, g, rfl, eg, hC, hh, ι1, z1.2, [d0], .str s, x2, rfl, .cons rr .nil, zr1.st, er, fun v ι3 H3 c3 st3 p rp => ?_⟩)
          have rp' := rp
          unfold Rep at rp'
          exact ⟨_, rp'.1, kk v ι3 H3 (k1.trans (c3.kp st3 fun a ha => zr1.st.mem ha)) (XRep.of p rp) (zr1.call c3 st3)⟩
        | _ => cases e
/-- the classes' __str__ -/
def StrMs (G : GX) (lv : Nat) (tb : List (Nat × Fn)) : Prop := ∀ c g, tb.lookup c = some g → ∃ k, k ≤ lv ∧ Mth G.P G.w G.W.K G.mg G.base G.W k c "__str__" 0 g
end DE
set_option Elab.async false
set_option linter.all false
set_option maxRecDepth 100000
set_option maxHeartbeats 4000000
namespace DE
open PySem PySem.Spec PyProof.Rows L2
end DE
set_option Elab.async false
set_option linter.all false
set_option maxRecDepth 100000
set_option maxHeartbeats 4000000
namespace DE
open PySem PySem.Spec PyProof.Rows L2
def xStr (tb : List (Nat × Fn)) (f : EvX) : EvX := fun z => (f z).bind fun x => match x.1 with
  | .ok d => (strA tb x.2 d).map fun r => (.ok r.1, r.2)
  | .ex c fs => some (.ex c fs, x.2)
theorem txv_str {W : Wd} {B : Bs} {tb : List (Nat × Fn)} {f : EvX} {wx : WX} (σ : L2.St) (H : Hp) (Q : VK) (q : txv W B (xStr tb f) wx σ H Q) : tCB (StrR W tb) (tCons (txv W B f wx) tNil) σ H Q := by
  obtain ⟨ι, z, r, z', zr, e1, kk⟩ := q
  unfold xStr at e1
  cases ea : f z with
  | none => rw [ea] at e1; cases e1
  | some y =>
    rw [ea, Option.bind_some] at e1
    obtain ⟨r0, z1⟩ := y
    show txv W B f wx σ H fun v H1 => StrR W tb [v] H1 Q
    refine ⟨ι, z, r0, z1, zr, ea, ?_⟩
    cases r0 with
    | ex c fs => cases e1; exact kk
    | ok d0 =>
      intro v ι1 H1 k1 r zr1
      replace e1 : (strA tb z1 d0).map (fun r => (XR.ok r.1, r.2)) = some (_, z') := e1
      cases es : strA tb z1 d0 with
      | none => rw [es] at e1; cases e1
      | some x =>
        rw [es] at e1
        cases e1
        obtain ⟨d, z2⟩ := x
        replace kk : ∀ v ι' H', Kp ι H ι' H' → XRep W ι' H' σ d v → ZR W B ι' H' σ z2 → Q v H' := kk
        show StrR W tb [v] H1 Q
        cases d0 with
        | int i =>
          have e1 : (if (Nat.blt i.natAbs.log2 1920 && Nat.ble (strL i).length 16777216) = true then some (D.str (strL i)) else none).map (fun r => (r, z1)) = some (d, z2) := es
          split at e1
          · rename_i h
            rw [Bool.and_eq_true] at h
            cases e1
            have r3 := r.rep rfl
            unfold Rep at r3
            subst r3
            refine .inl ⟨i, rfl, Nat.le_of_ble_eq_true h.1, kk _ ι1 H1 k1 (XRep.of rfl ?_) zr1⟩
            unfold Rep
            refine ⟨?_, by rw [sizeLine_eq]; exact Nat.le_of_ble_eq_true h.2⟩
            unfold strL
            rfl
          · cases e1
        | str s =>
          cases es
          have r3 := r.rep rfl
          have r4 := r3
          unfold Rep at r3
          obtain ⟨rfl, hl⟩ := r3
          exact .inr (.inl ⟨_, rfl, kk _ ι1 H1 k1 (XRep.of rfl r4) zr1⟩)
        | _ => exact strOb k1 r zr1 es kk
def XE.str (tb : List (Nat × Fn)) (a : XE) : XE where
  sh := fun N sc e => match e with
    | .Call (.Name y _) [v] [] _ => decide (y = ("str" : Str)) && glb sc y && nodbg y && notStar v && a.sh N sc v
    | _ => false
  sem := xStr tb a.sem
  need := fun G lv => G.mg "str" = none ∧ (∃ l, l + 2 ≤ lv ∧ StrMs G l tb) ∧ a.need G lv
  ok := fun {G lv} nd N sc X fx e h B wx tk => by
    split at h
    · rename_i y p v pos
      simp only [Bool.and_eq_true, decide_eq_true_eq] at h
      obtain ⟨⟨⟨⟨rfl, g1⟩, nd2⟩, ns⟩, h4⟩ := h
      obtain ⟨hm, ⟨l, hl, M⟩, na⟩ := nd
      obtain ⟨x1, x2, x3, x4, x5, x6⟩ := fx_eqs fx
      have gy : Gl X "str" := show X.env.scope.names.lookup _ = _ by rw [x6]; exact glb_ok g1
      have pe := a.ok na fx h4 B wx tk
      refine pe_mono (pe_callTy (T := "str") (str_own (W := G.W) (lv := l) (tb := tb) (fx.room.mono hl) fx.gd fun c g hc => ?_) gy (by rw [x4]; exact hm) (by decide +kernel) (pa_cons pe pa_nil (star_ok ns)) (by decide) (nodbg_ok nd2).1 (star_ok ns) (any_ok rfl)) txv_str
      obtain ⟨k, hk, m⟩ := M c g hc
      exact ⟨k, hk, by rw [x1, x2, x3, x4, x5]; exact m⟩
    · cases h
end DE
set_option Elab.async false
set_option linter.all false
set_option maxRecDepth 100000
set_option maxHeartbeats 4000000
namespace PySem.W
open PySem PySem.Spec PySem.Calls PyProof.Rows
end PySem.W
namespace DE
open PySem PySem.Spec PyProof.Rows L2
end DE
set_option Elab.async false
set_option linter.all false
set_option maxRecDepth 100000
set_option maxHeartbeats 4000000
namespace DE
open PySem PySem.Spec PyProof.Rows L2
end DE
set_option Elab.async false
set_option linter.all false
set_option maxRecDepth 100000
set_option maxHeartbeats 4000000
namespace DXId
open PySem PySem.Spec PyProof.Rows PySem.SeqAt
end DXId
namespace DE
open PySem PySem.Spec PyProof.Rows L2
end DE
set_option Elab.async false
set_option linter.all false
set_option maxRecDepth 100000
set_option maxHeartbeats 4000000
namespace DE
open PySem PySem.Spec PyProof.Rows L2
end DE
set_option Elab.async false
set_option linter.all false
set_option maxRecDepth 100000
set_option maxHeartbeats 4000000
namespace DE
open PySem PySem.Spec PyProof.Rows L2
end DE
set_option Elab.async false
set_option linter.all false
set_option maxRecDepth 100000
set_option maxHeartbeats 4000000
namespace DE
open PySem PySem.Spec PyProof.Rows L2 L2H
end DE
set_option Elab.async false
set_option linter.all false
set_option maxRecDepth 100000
set_option maxHeartbeats 4000000
namespace DE
open PySem PySem.Spec PyProof.Rows L2
end DE
set_option Elab.async false
set_option linter.all false
set_option maxRecDepth 100000
set_option maxHeartbeats 4000000
namespace DE
open PySem PySem.Spec PyProof.Rows L2
end DE
set_option Elab.async false
set_option linter.all false
set_option maxRecDepth 100000
set_option maxHeartbeats 4000000
namespace DE
open PySem PySem.Spec PyProof.Rows L2
end DE
set_option Elab.async false
set_option linter.all false
set_option maxRecDepth 100000
set_option maxHeartbeats 4000000
namespace DE
open PySem PySem.Spec PyProof.Rows L2
end DE
set_option Elab.async false
set_option linter.all false
set_option maxRecDepth 100000
set_option maxHeartbeats 4000000
namespace DXEq
open PySem PySem.Spec PyProof.Rows PySem.SeqAt
end DXEq
namespace DE
open PySem PySem.Spec PyProof.Rows L2
def okTy : D → Bool
  | .ins c _ => plC c
  | d => (tyN d).isSome
def eqB2 (ne : Bool) (ρ : Rho) : D × Store → Option (D × Z)
  | (.bl b, S) => some (.bl (xor ne b), (ρ, S))
  | _ => none
def eqO (tb : List (Nat × Fn)) (ne : Bool) (x : D) (y : D × Z) : Option (D × Z) := (clsOf y.2 x).bind fun c => (tb.lookup c).bind fun g => if plC c && y.1.plain && okTy y.1 then (g [x, y.1] y.2.2).bind (eqB2 ne y.2.1) else none
end DE
set_option Elab.async false
set_option linter.all false
set_option maxRecDepth 100000
set_option maxHeartbeats 4000000
namespace DE
open PySem PySem.Spec PyProof.Rows L2
end DE
set_option Elab.async false
set_option linter.all false
set_option maxRecDepth 100000
set_option maxHeartbeats 4000000
namespace DE
open PySem PySem.Spec PyProof.Rows L2
end DE
set_option Elab.async false
set_option linter.all false
set_option maxRecDepth 100000
set_option maxHeartbeats 4000000
namespace L2
open PySem PySem.Spec PyProof.Rows
end L2
set_option Elab.async false
set_option linter.all false
set_option maxRecDepth 100000
set_option maxHeartbeats 4000000
namespace DE
open PySem PySem.Spec PyProof.Rows L2
end DE
set_option Elab.async false
set_option linter.all false
set_option maxRecDepth 100000
set_option maxHeartbeats 4000000
namespace DE
open PySem PySem.Spec PyProof.Rows L2 L2H LamX
end DE
set_option Elab.async false
set_option linter.all false
set_option maxRecDepth 100000
set_option maxHeartbeats 4000000
namespace DE
open PySem PySem.Spec PyProof.Rows L2 L2H LamX
end DE
set_option Elab.async false
set_option linter.all false
set_option maxRecDepth 100000
set_option maxHeartbeats 4000000
namespace DE
open PySem PySem.Spec PyProof.Rows L2 L2H LamX
end DE
set_option Elab.async false
set_option linter.all false
set_option maxRecDepth 100000
set_option maxHeartbeats 4000000
namespace DE
open PySem PySem.Spec PyProof.Rows L2 LamX
end DE
namespace DE
open PySem PySem.Spec PyProof.Rows L2
end DE
namespace DE
open PySem PySem.Spec PyProof.Rows L2
end DE
set_option Elab.async false
set_option linter.all false
set_option maxRecDepth 100000
set_option maxHeartbeats 4000000
namespace DE
open PySem PySem.Spec PyProof.Rows L2
end DE
set_option Elab.async false
set_option linter.all false
set_option maxRecDepth 100000
set_option maxHeartbeats 4000000
namespace DE
open PySem PySem.Spec L2
end DE
set_option Elab.async false
set_option linter.all false
set_option maxRecDepth 100000
set_option maxHeartbeats 4000000
namespace DE
open PySem PySem.Spec PyProof.Rows L2 L2H CwR
end DE
set_option Elab.async false
set_option linter.all false
set_option maxRecDepth 100000
set_option maxHeartbeats 4000000
namespace DE
open PySem PySem.Spec PyProof.Rows L2
/-- .. and without them again -/
def unlendH (cs : List (Addr × Obj)) (H : Hp) : Hp := fun b => match cs.lookup b with
  | some _ => none
  | none => H b
/-- what is lent: untracked so far, and there -/
def CanLend (H : Hp) (h : Heap) (cs : List (Addr × Obj)) : Prop := ∀ c o, cs.lookup c = some o → H c = none ∧ h.get? c = some o
section
variable {P : Program} {w : World} {H H' : Hp} {h h' : Heap} {a b : Addr} {cs : List (Addr × Obj)}
theorem unlendH_in {o : Obj} (e : cs.lookup b = some o) : unlendH cs H b = none := by unfold unlendH; rw [e]
theorem unlendH_out (e : cs.lookup b = none) : unlendH cs H b = H b := by unfold unlendH; rw [e]
theorem CanLend.out (l : CanLend H h cs) {u : HO} (e : H b = some u) : cs.lookup b = none := by
  cases q : cs.lookup b with
  | none => rfl
  | some o => rw [(l b o q).1] at e; cases e
end
end DE
set_option Elab.async false
set_option linter.all false
set_option maxRecDepth 100000
set_option maxHeartbeats 4000000
namespace DE
open PySem PySem.Spec PyProof.Rows L2
section
variable {W : Wd} {ι ι' : List Addr} {H H' : Hp} {h h' : Heap} {cs : List (Addr × Obj)}
/-- all but cells stays -/
def Cf (H H' : Hp) : Prop := ∀ b u, H b = some u → (∀ o x v, u = .frz o (.own x) → o.data ≠ .cell v) → H' b = some u
/-- only cells are lent -/
def AreCells (cs : List (Addr × Obj)) : Prop := ∀ c o, cs.lookup c = some o → ∃ v, o.data = .cell v
theorem Cf.of (k : Cf H H') {b : Addr} {u : HO} (e : H b = some u) (n : ∀ o x, u ≠ .frz o (.own x)) : H' b = some u := k b u e fun o x _ z => absurd z (n o x)
theorem Cf.xd (k : Cf H H') {o : Obj} {fvs : List (Str × V)} (x : XdOf H o fvs) : XdOf H' o fvs := by
  rcases x with x | ⟨d, h1, h2⟩
  · exact .inl x
  · exact .inr ⟨d, h1, k.of h2 (by intro _ _ z; cases z)⟩
theorem Cf.fz (k : Cf H H') {K : PySem.W.Frag} {a : Addr} {xs : List V} (x : Fz K H a xs) : Fz K H' a xs := by
  rcases x with ⟨o, x⟩ | x
  · exact .inl ⟨o, k.of x (by intro _ _ z; cases z)⟩
  · exact .inr x
theorem Cf.code (k : Cf H H') {c : Addr} {q : Str} (x : H c = some (LamX.CodeO c q)) : H' c = some (LamX.CodeO c q) := k.of x (by intro _ _ z; cases z)
end
end DE
set_option Elab.async false
set_option linter.all false
set_option maxRecDepth 100000
set_option maxHeartbeats 4000000
namespace DE
open PySem PySem.Spec PyProof.Rows L2
end DE
set_option Elab.async false
set_option linter.all false
set_option maxRecDepth 100000
set_option maxHeartbeats 4000000
namespace DE
open PySem PySem.Spec PyProof.Rows L2
end DE
set_option Elab.async false
set_option linter.all false
set_option maxRecDepth 100000
set_option maxHeartbeats 4000000
namespace DE
open PySem PySem.Spec PyProof.Rows L2
end DE
set_option Elab.async false
set_option linter.all false
set_option maxRecDepth 100000
set_option maxHeartbeats 4000000
namespace DE
open PySem PySem.Spec PyProof.Rows L2
/-- these cells are lent -/
def AreLent (H : Hp) (cs : List (Addr × Obj)) : Prop := ∀ c o, cs.lookup c = some o → H c = some (.frz o (.own c))
section
variable {P : Program} {w : World} {K : PySem.W.Frag} {mg : Str → Option Value} {base : Heap} {A : Around} {outer : List Env} {H H' : Hp} {h h' : Heap} {s s' : Shared} {b : Addr} {cs : List (Addr × Obj)} {Q Q' : VK} {u : Value}
theorem AreLent.out (l : AreLent H cs) (e : H b = none) : cs.lookup b = none := by
  cases q : cs.lookup b with
  | none => rfl
  | some o => rw [l b o q] at e; cases e
theorem AreLent.un (l : AreLent H cs) (e : H b = none) : unlendH cs H b = none := by rw [unlendH_out (l.out e)]; exact e
theorem AreLent.ne (l : AreLent H cs) {v : HO} (e : H b = some v) (n : ∀ o, v ≠ .frz o (.own b)) : cs.lookup b = none := by
  cases q : cs.lookup b with
  | none => rfl
  | some o => rw [l b o q] at e; exact absurd (Option.some.inj e).symm (n o)
end
end DE
set_option Elab.async false
set_option linter.all false
set_option maxRecDepth 100000
set_option maxHeartbeats 4000000
namespace DE
open PySem PySem.Spec PyProof.Rows L2 NdefX
open LamX (CodeO)
end DE
set_option Elab.async false
set_option linter.all false
set_option maxRecDepth 100000
set_option maxHeartbeats 4000000
namespace DE
open PySem PySem.Spec PyProof.Rows L2 NdefX
section
variable {W : Wd} {ι : List Addr} {H : Hp} {cs : List (Str × Addr)}
/-- a lent closure's cells, with what stands there -/
structure LentC (W : Wd) (ι : List Addr) (H : Hp) (cs : List (Str × Addr)) (caps : List D) (ys : List Str) (lc : List (Addr × Obj)) (ws : List V) : Prop where
  lent : AreLent H lc
  cell : AreCells lc
  len : ws.length = ys.length
  rep : Paired (fun d v => d.plain = true ∧ Rep W ι H d v) caps ws
  at_ : ∀ (i : Nat) (y : Str), ys[i]? = some y → ∃ c o v u, cs.lookup y = some c ∧ lc.lookup c = some o ∧ ws[i]? = some v ∧ L2.RelV v u ∧ o.data = .cell (some u)
theorem RepC.cells : ∀ {caps : List D} {ys : List Str}, RepC W ι H cs caps ys → ∃ (lc : List (Addr × Obj)) (ws : List V), LentC W ι H cs caps ys lc ws
  | [], _, r => by
    unfold RepC at r
    subst r
    exact ⟨[], [], ⟨(fun c o e => by cases e), (fun c o e => by cases e), rfl, .nil, (fun i y e => by simp at e)⟩⟩
  | d :: ds, _, r => by
    unfold RepC at r
    obtain ⟨y, ys, c, oc, w, u, rfl, e1, e2, e3, e4, p, r1, r2⟩ := r
    obtain ⟨lc, ws, L⟩ := RepC.cells r2
    have lt : AreLent H ((c, oc) :: lc) := fun b o e => by
      rw [List.lookup_cons] at e
      split at e
      · rename_i hb
        cases e
        rw [eq_of_beq hb]; exact e2
      · exact L.lent b o e
    have look : ∀ b o, lc.lookup b = some o → ((c, oc) :: lc).lookup b = some o := fun b o e => by
      rw [List.lookup_cons]
      split
      · rename_i hb
        have := L.lent b o e
        rw [eq_of_beq hb, e2] at this
        cases this
        rfl
      · exact e
    refine ⟨(c, oc) :: lc, w :: ws, ⟨lt, fun b o e => ?_, by simp [L.len], .cons ⟨p, r1⟩ L.rep, fun i x e => ?_⟩⟩
    · rw [List.lookup_cons] at e
      split at e
      · cases e; exact ⟨_, e3⟩
      · exact L.cell b o e
    · cases i with
      | zero =>
        cases (show some y = some x from e)
        exact ⟨c, oc, w, u, e1, by simp, rfl, e4, e3⟩
      | succ i =>
        obtain ⟨c', o', v', u', h1, h2, h3, h4, h5⟩ := L.at_ i x (by simpa using e)
        exact ⟨c', o', v', u', h1, look c' o' h2, by simpa using h3, h4, h5⟩
theorem LentC.cells {P : Program} {w : World} {h : Heap} {caps : List D} {ys : List Str} {lc : List (Addr × Obj)} {ws : List V} {names : List (Str × NameKind)} (L : LentC W ι H cs caps ys lc ws) (hok : HOk P w H h)
    (inj : ∀ (x y : Str) (a : Addr), cs.lookup x = some a → cs.lookup y = some a → x = y) (hfr : ∀ y ∈ names, y.2 = .free → y.1 ∈ ys) (hin : ∀ y ∈ ys, (y, NameKind.free) ∈ names) :
    CellsAt (cloFrom cs names []) ys (ws.map some) h (unlendH lc H) := by
  have hfree : ∀ y ∈ names, y.2 = .free → ∃ c, cs.lookup y.1 = some c := fun y hy e => by
    obtain ⟨i, hi, q⟩ := List.getElem_of_mem (hfr y hy e)
    obtain ⟨c, _, _, _, h1, _⟩ := L.at_ i y.1 (by rw [List.getElem?_eq_getElem hi, q])
    exact ⟨c, h1⟩
  refine ⟨by rw [List.length_map]; exact L.len, fun y c e => ?_, fun x y c e1 e2 => inj x y c (clo_cm hfree e1) (clo_cm hfree e2), fun i y e => ?_⟩
  · rcases cloFrom_mem (PySem.mem_of_lookup e) with z | ⟨z, _⟩
    · cases z
    · obtain ⟨i, hi, q⟩ := List.getElem_of_mem (hfr _ z rfl)
      obtain ⟨c', o, v, u, h1, h2, h3, h4, h5⟩ := L.at_ i y (by rw [List.getElem?_eq_getElem hi]; exact congrArg some q)
      have := clo_cm hfree e
      rw [h1] at this
      cases this
      exact ⟨unlendH_in h2, some u, o, (hok c _ (L.lent c o h2)).1, h5⟩
  · obtain ⟨c', o, v, u, h1, h2, h3, h4, h5⟩ := L.at_ i y e
    refine ⟨c', clo_has hfree (hin y (List.mem_of_getElem? e)) h1, fun v' hv => ?_⟩
    rw [List.getElem?_map, h3] at hv
    cases hv
    exact ⟨u, h4, o, (hok c' _ (L.lent c' o h2)).1, h5⟩
end
end DE
set_option Elab.async false
set_option linter.all false
set_option maxRecDepth 100000
set_option maxHeartbeats 4000000
namespace DE
open PySem PySem.Spec PyProof.Rows L2 NdefX
open LamX (CodeO)
section
variable {CX : CXT} {P : Program} {w : World} {K : PySem.W.Frag} {mg : Str → Option Value} {base : Heap} {N fr : List Str} {x : Str} {F : NF} {f : Addr} {k : Nat}
/-- the function with its frame's own cells ahead -/
abbrev ownC (F : NF) (n : Nat) : NF := { F with cl := cellsFrom (n + 1) F.scope.names [] ++ F.cl }
end
end DE
set_option Elab.async false
set_option linter.all false
set_option maxRecDepth 100000
set_option maxHeartbeats 4000000
namespace DE
open PySem PySem.Spec PyProof.Rows L2 NdefX
open LamX (CodeO)
/-- the promise of a lent closure of the kind k: n parameters, the captured names' data ahead -/
structure CloG (P : Program) (w : World) (K : PySem.W.Frag) (mg : Str → Option Value) (base : Heap) (W : Wd) (j k n : Nat) (g : List D → Fn) : Prop where
  run : ∀ (q : CloK), W.ck.f k q = true → ∀ (A : Around) (outer : List Env) (s : Shared) (H : Hp) (ι : List Addr) (S S' : Store) (f c : Addr) (o : Obj) (cs : List (Str × Addr)) (caps ds : List D) (d : D) (us : List Value) (vs : List V) (Q : VK) (E : XK), Room j A → A.guards = some [] → Env0 P w K mg base A outer s H →
    H f = some (.frz o (.own f)) → q.obj cs c o → H c = some (CodeO c q.qual) → RepC W ι H cs caps q.fr → Vals vs us → Paired (Rep W ι H) ds vs → ds.length = n → StRep W ι H S → g caps ds S = some (d, S') →
    (∀ v ι' H', CKp ι H ι' H' → StRep W ι' H' S' → d.plain = true → Rep W ι' H' d v → Q v H') → codeAny (model P w) A (.call (.ref f) ⟨us, []⟩) (CR L2.CX0 outer P w H s Q E) s
theorem CloG.mono {P : Program} {w : World} {K : PySem.W.Frag} {mg : Str → Option Value} {base : Heap} {W : Wd} {j j' k n : Nat} {g : List D → Fn} (c : CloG P w K mg base W j k n g) (h : j ≤ j') : CloG P w K mg base W j' k n g :=
  ⟨fun q hk A outer s H ι S S' f c' o cs caps ds d us vs Q E hr => c.run q hk A outer s H ι S S' f c' o cs caps ds d us vs Q E (hr.mono h)⟩
end DE
set_option Elab.async false
set_option linter.all false
set_option maxRecDepth 100000
set_option maxHeartbeats 4000000
namespace DE
open PySem PySem.Spec PyProof.Rows L2
end DE
set_option Elab.async false
set_option linter.all false
set_option maxRecDepth 100000
set_option maxHeartbeats 4000000
namespace DE
open PySem PySem.Spec PyProof.Rows L2
end DE
set_option Elab.async false
set_option linter.all false
set_option maxRecDepth 100000
set_option maxHeartbeats 4000000
namespace DE
open PySem PySem.Spec PyProof.Rows L2 LamX NdefX
end DE
set_option Elab.async false
set_option linter.all false
set_option maxRecDepth 100000
set_option maxHeartbeats 4000000
namespace DE
open PySem PySem.Spec L2
end DE
set_option Elab.async false
set_option linter.all false
set_option maxRecDepth 100000
set_option maxHeartbeats 4000000
namespace DE
open PySem PySem.Spec PyProof.Rows L2
end DE
set_option Elab.async false
set_option linter.all false
set_option maxRecDepth 100000
set_option maxHeartbeats 4000000
namespace DE
open PySem PySem.Spec PyProof.Rows L2 LamX
end DE
set_option Elab.async false
set_option linter.all false
set_option maxRecDepth 100000
set_option maxHeartbeats 4000000
namespace PySem
namespace HandSPX
open Builtin Builtin.ObjectAttr
end HandSPX
end PySem
namespace DE
open PySem PySem.Spec PyProof.Rows L2
section
variable {prog : Program} {w : World} {A : Around} {E : Value → Shared → Prop} {R : Result → Shared → Prop} {s : Shared} {K : PySem.W.Frag} {C fI : Addr}
/-- def __init__(self, index, told): self.index = index; self.told = told -/
def ini2B (K : PySem.W.Frag) (g : Addr) : Bool := match K.lookup g with
  | some ⟨.type "function", _, .func fd, _⟩ => (match fd.params with
      | ⟨[], [⟨a, none, _⟩, ⟨b, none, _⟩, ⟨c, none, _⟩], none, [], [], none, []⟩ => decide (a = "self") && decide (b = "index") && decide (c = "told")
      | _ => false)
    && (match fd.body with
      | .stmts [.Assign [.Attribute (.Name s _) v _] (.Name u _) _, .Assign [.Attribute (.Name s2 _) v2 _] (.Name u2 _) _] => decide (s = "self") && decide (v = "index") && decide (u = "index") && (decide (s2 = "self") && decide (v2 = "told") && decide (u2 = "told"))
      | _ => false)
    && decide (fd.scope = ⟨.function, [("self", .local), ("index", .local), ("told", .local)], false, false, fd.scope.more⟩) && posOk fd K
  | _ => false
end
end DE
set_option Elab.async false
set_option linter.all false
set_option maxRecDepth 100000
set_option maxHeartbeats 4000000
namespace DE
open PySem PySem.Spec PyProof.Rows L2
def xc2B (K : PySem.W.Frag) (x : Str) : Bool := ini2B K (He.ma K (He.ga K x) "__init__") && (He.eqO (PySem.W.findIn K (.ref (He.ga K x)) "__init__") (some (some (.ref (He.ma K (He.ga K x) "__init__")))) &&
  (decide (PySem.W.typeIn K (.ref (He.ma K (He.ga K x) "__init__")) = some (.type "function")) && (He.eqO (PySem.W.findIn K (.ref (He.ga K x)) "index") (some none) && He.eqO (PySem.W.findIn K (.ref (He.ga K x)) "told") (some none))))
end DE
set_option Elab.async false
set_option linter.all false
set_option maxRecDepth 100000
set_option maxHeartbeats 4000000
namespace DE
open PySem PySem.Spec PyProof.Rows L2
structure SayL (a1 : List He.Fa) (a2 : List He.DefD) (a3 : List He.Tab) (tf : List He.Defn) (a4 : PySem.W.Frag → Bool) (w : World) (h : Heap) (K : PySem.W.Frag) : Prop where
  t : He.SaysT a1 a2 a3 w K
  more : a4 K = true
  hd : ∀ p ∈ tf, PySem.W.codeHdIn K (He.cT K p).1 (He.cT K p).2 = true
  out : ∀ p ∈ tf, K.lookup (He.cT K p).2 = none
  empty : ∀ p ∈ tf, h.get? (He.cT K p).2 = some { cls := .none, data := .fields #[] }
def obsL (as : List Addr) (a1 : List He.Fa) (a2 : List He.DefD) (a3 : List He.Tab) (tf : List He.Defn) (a4 : PySem.W.Frag → Bool) (g : Addr → Option Obj) : He.AlT × Bool := (He.obsT a1 a2 a3 (He.frT g as), a4 (He.frT g as) && He.tabsB g tf (He.frT g as))
theorem sayL_of {as : List Addr} {a1 : List He.Fa} {a2 : List He.DefD} {a3 : List He.Tab} {tf : List He.Defn} {a4 : PySem.W.Frag → Bool} {w : World} {h : Heap} (e : obsL as a1 a2 a3 tf a4 h.get? = (He.valT a2 a3 w, true)) : SayL a1 a2 a3 tf a4 w h (He.frT h.get? as) := by
  have e1 : He.obsT a1 a2 a3 (He.frT h.get? as) = He.valT a2 a3 w := congrArg Prod.fst e
  have e2 : (a4 (He.frT h.get? as) && He.tabsB h.get? tf (He.frT h.get? as)) = true := congrArg Prod.snd e
  rw [Bool.and_eq_true] at e2
  have tab : ∀ p ∈ tf, PySem.W.codeHdIn (He.frT h.get? as) (He.cT (He.frT h.get? as) p).1 (He.cT (He.frT h.get? as) p).2 = true ∧ ∃ o, h.get? (He.cT (He.frT h.get? as) p).2 = some o ∧ He.emptyTab o = true := fun p hp => by
    have z := List.all_eq_true.mp e2.2 p hp
    rw [Bool.and_eq_true] at z
    refine ⟨z.1, ?_⟩
    have z2 := z.2
    split at z2
    · rename_i o ho; exact ⟨o, ho, z2⟩
    · cases z2
  refine ⟨e1, e2.1, fun p hp => (tab p hp).1, fun p hp => ?_, fun p hp => ?_⟩ <;> obtain ⟨_, o, h1, h2⟩ := tab p hp
  · exact He.frT_none h1 h2
  · rw [h1, He.emptyTab_eq h2]
def hookL (as : List Addr) (a1 : List He.Fa) (a2 : List He.DefD) (a3 : List He.Tab) (tf : List He.Defn) (a4 : PySem.W.Frag → Bool) : PySem.W.Hook where
  α := He.AlT × Bool
  obs := fun s => obsL as a1 a2 a3 tf a4 s.heap.get?
  val := fun w => (He.valT a2 a3 w, true)
  says := fun w h => ∃ K : PySem.W.Frag, K.In h ∧ SayL a1 a2 a3 tf a4 w h K
  of := fun _ _ e => ⟨_, He.frT_in, sayL_of e⟩
  keeps := fun _ _ _ ⟨K, hK, c⟩ k => ⟨K, PySem.W.Frag.In.keeps hK k, ⟨c.t, c.more, c.hd, c.out, fun p hp => k _ _ (c.empty p hp)⟩⟩
end DE
set_option Elab.async false
set_option linter.all false
set_option maxRecDepth 100000
set_option maxHeartbeats 4000000
namespace DE
open PySem PySem.Spec PyProof.Rows L2
end DE
set_option Elab.async false
set_option linter.all false
set_option maxRecDepth 100000
set_option maxHeartbeats 1000000
namespace DE
open PySem PySem.Spec PyProof.Rows L2
end DE
set_option Elab.async false
set_option linter.all false
set_option maxRecDepth 100000
set_option maxHeartbeats 1000000
namespace DE
open PySem PySem.Spec PyProof.Rows L2 L2H Calls
def sysB (K : PySem.W.Frag) : Bool := match K.lookup sysModules with
  | some o => o.cls == .type "dict"
  | none => false
end DE
set_option Elab.async false
set_option linter.all false
set_option maxRecDepth 100000
set_option maxHeartbeats 4000000
namespace DE
open PySem PySem.Spec PyProof.Rows L2 NdefX
open LamX (CodeO)
end DE
set_option Elab.async false
set_option linter.all false
set_option maxRecDepth 100000
set_option maxHeartbeats 4000000
namespace DE
open PySem PySem.Spec PyProof.Rows L2 NdefX
open LamX (CodeO)
/-- what is asked behind a call that may raise -/
def XrC (W : Wd) (ι : List Addr) (H : Hp) (S' : Store) (Q : VK) (E : XK) (r : XR) : Prop :=
  XrK (fun d => ∀ v ι' H', CKp ι H ι' H' → StRep W ι' H' S' → d.plain = true → Rep W ι' H' d v → Q v H') (fun c fs => ∀ cls d ι' H', CKp ι H ι' H' → StRep W ι' H' S' → XcRep W ι' H' c fs cls d → E cls d H') r
/-- the promise of a lent lambda of the kind k, without parameters, that may raise -/
structure CloX (P : Program) (w : World) (K : PySem.W.Frag) (mg : Str → Option Value) (base : Heap) (W : Wd) (j k : Nat) (g : List D → Store → Option (XR × Store)) : Prop where
  run : ∀ (q : CloK), W.ck.f k q = true → ∀ (A : Around) (outer : List Env) (s : Shared) (H : Hp) (ι : List Addr) (S S' : Store) (f c : Addr) (o : Obj) (cs : List (Str × Addr)) (caps : List D) (r : XR) (Q : VK) (E : XK), Room j A → A.guards = some [] → Env0 P w K mg base A outer s H →
    H f = some (.frz o (.own f)) → q.obj cs c o → H c = some (CodeO c q.qual) → RepC W ι H cs caps q.fr → StRep W ι H S → g caps S = some (r, S') → XrC W ι H S' Q E r →
    codeAny (model P w) A (.call (.ref f) ⟨[], []⟩) (CR (L2.CX P w) outer P w H s Q E) s
theorem CloX.mono {P : Program} {w : World} {K : PySem.W.Frag} {mg : Str → Option Value} {base : Heap} {W : Wd} {j j' k : Nat} {g : List D → Store → Option (XR × Store)} (c : CloX P w K mg base W j k g) (h : j ≤ j') : CloX P w K mg base W j' k g :=
  ⟨fun q hk A outer s H ι S S' f c' o cs caps r Q E hr => c.run q hk A outer s H ι S S' f c' o cs caps r Q E (hr.mono h)⟩
end DE
set_option Elab.async false
set_option linter.all false
set_option maxRecDepth 100000
set_option maxHeartbeats 4000000
namespace DE
open PySem PySem.Spec PyProof.Rows L2
end DE
set_option Elab.async false
set_option linter.all false
set_option maxRecDepth 100000
set_option maxHeartbeats 4000000
namespace DE
open PySem PySem.Spec PyProof.Rows L2 L2H
/-- a clause: the class, its number, the slot of the exception's name, the suite -/
structure TMc where
  T : Str
  c : Nat
  sl : Option Nat
  tr : Addr → Nat → List (Nat × D) → Ss
def TMc.cl (t : TMc) : Cl := ⟨fun c => c == t.c, t.sl, t.tr⟩
end DE
set_option Elab.async false
set_option linter.all false
set_option maxRecDepth 100000
set_option maxHeartbeats 1000000
namespace KK
open PySem PySem.Spec L2 L2H DE
end KK
set_option Elab.async false
set_option linter.all false
set_option maxRecDepth 100000
set_option maxHeartbeats 4000000
namespace KK
open PySem PySem.Spec L2 DE
end KK
set_option Elab.async false
set_option linter.all false
set_option maxRecDepth 100000
set_option maxHeartbeats 4000000
namespace DE
open PySem
end DE
set_option Elab.async false
set_option linter.all false
set_option maxRecDepth 100000
set_option maxHeartbeats 1000000
namespace DE
open PySem
def dspB (x : List D × Z) : Option (List D × Z) := if x.1.all D.plain && okLen x.1 then some x else none
def kCall (n : Nat) (g : Fn) (z : Z) (ds : List D) : Option (D × Z) := if ds.length = n then (g ds z.2).map fun r => (r.1, (z.1, r.2)) else none
def callB (n : Nat) (g : Fn) (x : List D × Z) : Option (D × Z) := (lendAll x.2 x.1).bind (kCall n g x.2)
def kBc (f : List D → Option D) (z : Z) (ds : List D) : Option (D × Z) := (f ds).map fun d => (d, z)
def bcB (f : List D → Option D) (x : List D × Z) : Option (D × Z) := (rdAll x.2 x.1).bind (kBc f x.2)
theorem A_bc {x : Str} {f : List D → Option D} {es : Es} {z : Z} : evE (.bc x f es) z = (evEs es z).bind (bcB f) := rfl
theorem A_fr {f : FE} {z : Z} : evE (.fr f) z = (evF f z).map fun x => (.lst x.1, x.2) := rfl
def kCons (es : Es) (x : D × Z) : Option (List D × Z) := (evEs es x.2).map fun y => (x.1 :: y.1, y.2)
theorem A_cons {e : E} {es : Es} {z : Z} : evEs (.cons e es) z = (evE e z).bind (kCons es) := rfl
theorem F_dsp {es : Es} {z : Z} : evF (.dsp es) z = (evEs es z).bind dspB := rfl
def enB (z : Z) : D → Option (List D × Z)
  | .lst ds => some (enumL ds, z)
  | .tup ds => some (enumL ds, z)
  | .str s => some (enumL (s.map fun c => .str [c]), z)
  | .ftp ss => some (enumL (ss.map D.str), z)
  | _ => none
def seqB (ss : Ss) (x : Fl × Z) : Option (Fl × Z) := match x.1 with
  | .nx => evSs ss x.2
  | fl => some (fl, x.2)
theorem seq_nx {ss : Ss} {z : Z} : seqB ss (.nx, z) = evSs ss z := rfl
theorem S_cons {s : S} {ss : Ss} {z : Z} : evSs (.cons s ss) z = (evS s z).bind (seqB ss) := rfl
def retB (x : D × Z) : Option (Fl × Z) := if x.1.plain then some (.rt x.1, x.2) else none
theorem S_ret {e : E} {z : Z} : evS (.ret e) z = (evE e z).bind retB := rfl
end DE
set_option Elab.async false
set_option linter.all false
set_option maxRecDepth 100000
set_option maxHeartbeats 1000000
namespace DE
open PySem
end DE
set_option Elab.async false
set_option linter.all false
set_option maxRecDepth 100000
set_option maxHeartbeats 1000000
namespace DE
open PySem
end DE
set_option Elab.async false
set_option linter.all false
set_option maxRecDepth 100000
set_option maxHeartbeats 1000000
namespace DE
open PySem
end DE
set_option Elab.async false
set_option linter.all false
set_option maxRecDepth 100000
set_option maxHeartbeats 1000000
namespace KK
open PySem DE
theorem cut_drop {α : Type} (xs : List α) (i : Nat) : cutL xs (some (i : Int)) none = xs.drop i := by
  unfold cutL
  have h0 : HT.sIx xs.length xs.length none = xs.length := rfl
  have h1 : HT.sIx xs.length 0 (some (i : Int)) = min i xs.length := by unfold HT.sIx; simp; omega
  rw [h0, h1]
  by_cases h : i ≤ xs.length
  · rw [Nat.min_eq_left h, List.take_of_length_le (by simp)]
  · rw [Nat.min_eq_right (by omega), List.drop_of_length_le (Nat.le_refl _), List.drop_of_length_le (by omega)]
    simp
def sgn (c : Nat) : Bool := decide (c ∈ [43, 45, 46])
def Purse (c : MO) : Prop := ∃ a b : Int, c = .lst [.int a, .int b] ∧ 0 ≤ a ∧ 0 ≤ b ∧ b < 2147483647
end KK
set_option Elab.async false
set_option linter.all false
set_option maxRecDepth 100000
set_option maxHeartbeats 1000000
namespace DE
open PySem
end DE
namespace KK
open PySem DE
def hold (row : List Nat) : List Nat → Bool
  | [] => true
  | k :: o => if row.getD k 46 = 46 then hold row o else row.getD k 46 == 43
theorem ix_lst {l : List D} {k : Nat} (h : k < l.length) : ixD (.lst l) (.int (k : Nat)) = some l[k] := by
  have e : L2.ixN l.length (k : Int) = some k := by unfold L2.ixN; simp; omega
  unfold ixD
  simp [e, h]
theorem ix_tup {l : List D} {k : Nat} (h : k < l.length) : ixD (.tup l) (.int (k : Nat)) = some l[k] := by
  have e : L2.ixN l.length (k : Int) = some k := by unfold L2.ixN; simp; omega
  unfold ixD
  simp [e, h]
end KK
set_option Elab.async false
set_option linter.all false
set_option maxRecDepth 100000
set_option maxHeartbeats 1000000
namespace KK
open PySem DE
/-- a row with m signs -/
def Row (m : Nat) (s : List Nat) : Prop := s.length = m ∧ s.all sgn = true
def words : List (List Nat) := [[97], [98], [99, 111, 115, 116], [102, 97, 114], [108, 101, 118, 101, 108], [110, 101, 97, 114], [115, 97, 102, 101], [116], [119, 105, 100, 116, 104], [122, 122, 122, 122, 122, 122, 122, 122]]
def isWord (w : List Nat) : Bool := decide (1 ≤ w.length) && decide (w.length ≤ 8) && w.all fun c => decide (97 ≤ c ∧ c ≤ 122)
/-- the names of rules -/
structure Names (L : List (List Nat)) : Prop where
  w : ∀ w ∈ L, isWord w = true
  asc : L.Pairwise (· < ·)
end KK
set_option Elab.async false
set_option linter.all false
set_option maxRecDepth 100000
set_option maxHeartbeats 1000000
namespace KK
open PySem DE
end KK
set_option Elab.async false
set_option linter.all false
set_option maxRecDepth 100000
set_option maxHeartbeats 1000000
namespace KK
open PySem DE
def tail (R : List (List Nat)) : List Nat := if R = [] then [] else 32 :: TL.joinL [32] R
def text (L R : List (List Nat)) : List Nat := TL.joinL [32] L ++ 58 :: tail R
theorem sgn_iff {c : Nat} (h : sgn c = true) : c = 43 ∨ c = 45 ∨ c = 46 := by
  unfold sgn at h
  simpa using h
theorem Row.mem {m : Nat} {s : List Nat} (h : Row m s) {c : Nat} (hc : c ∈ s) : c = 43 ∨ c = 45 ∨ c = 46 := sgn_iff (List.all_eq_true.mp h.2 c hc)
structure Bk (L R : List (List Nat)) : Prop where
  n : Names L
  l1 : 1 ≤ L.length
  l8 : L.length ≤ 8
  r : ∀ r ∈ R, Row L.length r
  r20 : R.length ≤ 20
end KK
set_option Elab.async false
set_option linter.all false
set_option maxRecDepth 100000
set_option maxHeartbeats 1000000
namespace KK
open PySem DE
/-- one rule more behind each -/
def grow (m : Nat) (o : List Nat) : List (List Nat) := ((List.range m).filter fun k => !decide (k ∈ o)).map fun k => o ++ [k]
def stepL (m : Nat) (L : List (List Nat)) : List (List Nat) := L.flatMap (grow m)
def begun (m : Nat) : Nat → List (List Nat)
  | 0 => [[]]
  | n + 1 => stepL m (begun m n)
def perms (m : Nat) : List (List Nat) := begun m m
end KK
set_option Elab.async false
set_option linter.all false
set_option maxRecDepth 100000
set_option maxHeartbeats 1000000
namespace KK
open PySem DE
end KK
set_option Elab.async false
set_option linter.all false
set_option maxRecDepth 100000
set_option maxHeartbeats 1000000
namespace KK
open PySem DE
def lots : Nat → List (List Nat)
  | 0 => [[]]
  | n + 1 => lots n ++ (lots n).map (· ++ [n])
theorem lots_len : ∀ n, (lots n).length = 2 ^ n
  | 0 => rfl
  | n + 1 => by rw [lots, List.length_append, List.length_map, lots_len n, Nat.pow_succ]; omega
theorem mem_lots : ∀ (n : Nat) (o : List Nat), o ∈ lots n ↔ o.Pairwise (· < ·) ∧ ∀ k ∈ o, k < n
  | 0, o => by
    simp only [lots, List.mem_singleton]
    constructor
    · rintro rfl; simp
    · rintro ⟨_, h⟩
      cases o with
      | nil => rfl
      | cons a o => exact absurd (h a (List.mem_cons_self ..)) (by omega)
  | n + 1, o => by
    rw [lots, List.mem_append, mem_lots n, List.mem_map]
    constructor
    · rintro (⟨h1, h2⟩ | ⟨p, hp, rfl⟩)
      · exact ⟨h1, fun k hk => by have := h2 k hk; omega⟩
      · obtain ⟨h1, h2⟩ := (mem_lots n p).mp hp
        refine ⟨List.pairwise_append.mpr ⟨h1, by simp, fun a ha b hb => ?_⟩, fun k hk => ?_⟩
        · rw [List.mem_singleton.mp hb]; exact h2 a ha
        · rcases List.mem_append.mp hk with h | h
          · have := h2 k h; omega
          · rw [List.mem_singleton.mp h]; omega
    · rintro ⟨h1, h2⟩
      by_cases hn : n ∈ o
      · right
        have hne : o ≠ [] := by intro e; rw [e] at hn; cases hn
        have e := List.dropLast_concat_getLast hne
        have hp := h1
        rw [← e, List.pairwise_append] at hp
        have hlast : o.getLast hne = n := by
          rw [← e] at hn
          rcases List.mem_append.mp hn with h | h
          · have := hp.2.2 n h _ (List.mem_singleton_self _)
            have := h2 _ (List.getLast_mem hne)
            omega
          · exact (List.mem_singleton.mp h).symm
        refine ⟨o.dropLast, (mem_lots n _).mpr ⟨hp.1, fun k hk => ?_⟩, by rw [← hlast]; exact e⟩
        have := hp.2.2 k hk _ (List.mem_singleton_self _)
        omega
      · left
        refine ⟨h1, fun k hk => ?_⟩
        have := h2 k hk
        have : k ≠ n := fun e => hn (e ▸ hk)
        omega
end KK
set_option Elab.async false
set_option linter.all false
set_option maxRecDepth 100000
set_option maxHeartbeats 1000000
namespace KK
open PySem DE
def fz (col : List Nat) : Nat := if 45 ∈ col then 45 else if 43 ∈ col then 43 else 46
theorem get_str {R : List (List Nat)} {k : Nat} (h : k < R.length) : (R.map D.str)[k]'(by rw [List.length_map]; exact h) = D.str (R.getD k []) := by
  rw [List.getElem_map, List.getD_eq_getElem?_getD, List.getElem?_eq_getElem h]
  rfl
end KK
set_option Elab.async false
set_option linter.all false
set_option maxRecDepth 100000
set_option maxHeartbeats 1000000
namespace KK
open PySem DE
theorem purse_noh {c : MO} (h : Purse c) (n : Nat) : nohM n c = true := by
  obtain ⟨a, b, rfl, _⟩ := h
  rfl
/-- cells without cells -/
def Cl (S : Store) : Prop := ∀ x ∈ S, ∀ n, nohM n x = true
theorem Cl.all {S : Store} (h : Cl S) (n : Nat) : S.all (nohM n) = true := List.all_eq_true.mpr fun x hx => h x hx n
theorem Cl.app {S T : Store} (h : Cl S) (g : Cl T) : Cl (S ++ T) := fun x hx n => (List.mem_append.mp hx).elim (fun q => h x q n) fun q => g x q n
theorem Cl.one {c : MO} (h : Purse c) : Cl [c] := fun x hx n => by rw [List.mem_singleton.mp hx]; exact purse_noh h n
end KK
set_option Elab.async false
set_option linter.all false
set_option maxRecDepth 100000
set_option maxHeartbeats 1000000
namespace KK
open PySem DE
end KK
set_option Elab.async false
set_option linter.all false
set_option maxRecDepth 100000
set_option maxHeartbeats 1000000
namespace KK
open PySem DE
def sg (row : List Nat) (k : Nat) : Nat := row.getD k 46
def open0 (R : List (List Nat)) : List Nat := (List.range R.length).filter fun k => (R.getD k []).any fun c => decide (c = 43) || decide (c = 45)
def ThruA : List (List Nat) → List Nat → Prop
  | [], a => a = []
  | ly :: f, a => ∃ b c, a = b ++ c ∧ b.Perm ly ∧ ThruA f c
theorem ThruA.self : ∀ f : List (List Nat), ThruA f f.flatten
  | [] => rfl
  | ly :: f => ⟨ly, f.flatten, by rw [List.flatten_cons], .refl _, ThruA.self f⟩
theorem hold_skip {row : List Nat} : ∀ {a c : List Nat}, (∀ k ∈ a, sg row k = 46) → hold row (a ++ c) = hold row c
  | [], _, _ => rfl
  | k :: a, c, h => by
    rw [List.cons_append, hold, if_pos (show row.getD k 46 = 46 from h k (List.mem_cons_self ..))]
    exact hold_skip fun j hj => h j (List.mem_cons_of_mem _ hj)
structure WI (R : List (List Nat)) (m : Nat) (f : List (List Nat)) (p l : List Nat) : Prop where
  fl : p = f.flatten
  len : f.length ≤ p.length
  nd : p.Nodup
  lt : ∀ r ∈ p, r < m
  sub : l.Sublist (open0 R)
  dot : ∀ k ∈ l, ∀ r ∈ p, sg (R.getD k []) r = 46
  ok : ∀ k, k < R.length → k ∉ l → ∀ a c, ThruA f a → hold (R.getD k []) (a ++ c) = true
theorem getR {R : List (List Nat)} {k : Nat} (h : k < R.length) : R.getD k [] ∈ R := by
  rw [List.getD_eq_getElem?_getD, List.getElem?_eq_getElem h]
  exact List.getElem_mem h
theorem all_dots {m : Nat} {row : List Nat} (h : Row m row) (hn : (row.any fun c => decide (c = 43) || decide (c = 45)) = false) (r : Nat) : sg row r = 46 := by
  unfold sg
  rw [List.getD_eq_getElem?_getD]
  cases e : row[r]? with
  | none => rfl
  | some c =>
    have hc := List.mem_of_getElem? e
    have := List.any_eq_false.mp hn c hc
    simp only [Bool.or_eq_true, decide_eq_true_eq, not_or] at this
    rcases h.mem hc with e1 | e1 | e1
    · exact absurd e1 this.1
    · exact absurd e1 this.2
    · simpa using e1
theorem WI.start {R : List (List Nat)} {m : Nat} (hR : ∀ r ∈ R, Row m r) : WI R m [] [] (open0 R) := by
  refine ⟨rfl, Nat.le_refl _, List.nodup_nil, fun r h => absurd h (by simp), List.Sublist.refl _, fun _ _ r h => absurd h (by simp), fun k hk hn a c _ => ?_⟩
  have hn2 : ((R.getD k []).any fun c => decide (c = 43) || decide (c = 45)) = false := by
    cases e : ((R.getD k []).any fun c => decide (c = 43) || decide (c = 45)) with
    | false => rfl
    | true => exact absurd (List.mem_filter.mpr ⟨List.mem_range.mpr hk, e⟩) hn
  have h0 := all_dots (hR _ (getR hk)) hn2
  have := hold_skip (row := R.getD k []) (a := a ++ c) (c := []) fun j _ => h0 j
  rw [List.append_nil] at this
  rw [this]
  rfl
end KK
set_option Elab.async false
set_option linter.all false
set_option maxRecDepth 100000
set_option maxHeartbeats 1000000
namespace KK
open PySem DE
def Fits (X : List (List Nat)) (m : Nat) : Prop := ∃ o ∈ perms m, ∀ r ∈ X, hold r o = true
theorem Fits.mono {X Y : List (List Nat)} {m : Nat} (h : Fits Y m) (s : ∀ r ∈ X, r ∈ Y) : Fits X m := by
  obtain ⟨o, h1, h2⟩ := h
  exact ⟨o, h1, fun r hr => h2 r (s r hr)⟩
end KK
set_option Elab.async false
set_option linter.all false
set_option maxRecDepth 100000
set_option maxHeartbeats 1000000
namespace KK
open PySem DE
/-- rows as a list or a tuple of texts -/
def SqD (rs : D) (R : List (List Nat)) : Prop := rs = .lst (R.map D.str) ∨ rs = .tup (R.map D.str)
theorem SqD.dv {rs : D} {R : List (List Nat)} (h : SqD rs R) : toDV rs = .imm rs := by rcases h with rfl | rfl <;> rfl
theorem SqD.rd {rs : D} {R : List (List Nat)} (h : SqD rs R) (z : Z) : rd z rs = some rs := by rcases h with rfl | rfl <;> rfl
theorem SqD.ln {rs : D} {R : List (List Nat)} (h : SqD rs R) (z : Z) : lendD z rs = some rs := by rcases h with rfl | rfl <;> rfl
theorem SqD.en {rs : D} {R : List (List Nat)} (h : SqD rs R) (z : Z) : enB z rs = some (enumL (R.map D.str), z) := by rcases h with rfl | rfl <;> rfl
theorem SqD.it {rs : D} {R : List (List Nat)} (h : SqD rs R) : itD rs = some (R.map D.str) := by rcases h with rfl | rfl <;> rfl
theorem SqD.ix {rs : D} {R : List (List Nat)} (h : SqD rs R) {k : Nat} (hk : k < R.length) : ixD rs (.int (k : Nat)) = some (.str (R.getD k [])) := by
  rcases h with rfl | rfl
  · rw [ix_lst (l := R.map D.str) (by rw [List.length_map]; exact hk), get_str hk]
  · rw [ix_tup (l := R.map D.str) (by rw [List.length_map]; exact hk), get_str hk]
end KK
set_option Elab.async false
set_option linter.all false
set_option maxRecDepth 100000
set_option maxHeartbeats 1000000
namespace KK
open PySem DE
end KK
set_option Elab.async false
set_option linter.all false
set_option maxRecDepth 100000
set_option maxHeartbeats 1000000
namespace KK
open PySem DE
end KK
set_option Elab.async false
set_option linter.all false
set_option maxRecDepth 100000
set_option maxHeartbeats 1000000
namespace KK
open PySem DE
theorem sl_lst_from {ds : List D} {k : Nat} : slD (.lst ds) (some ((k : Nat) + 1)) none = some (.lst (ds.drop (k + 1))) := by
  show some (D.lst (cutL ds (some (((k : Nat) : Int) + 1)) none)) = _
  rw [show ((k : Nat) : Int) + 1 = ((k + 1 : Nat) : Int) by omega, cut_drop]
end KK
set_option Elab.async false
set_option linter.all false
set_option maxRecDepth 100000
set_option maxHeartbeats 1000000
namespace KK
open PySem DE
/-- rule r can be next behind A -/
def cbn (R : List (List Nat)) (A : List Nat) (r : Nat) : Bool := !decide (r ∈ A) && !(R.any fun row => decide (sg row r = 45) && !(A.any fun k => decide (sg row k = 43)))
def nxt (R : List (List Nat)) (m : Nat) (A : List Nat) : List Nat := (List.range m).filter (cbn R A)
/-- all ways to go on by n rules -/
def cont (R : List (List Nat)) (m : Nat) : Nat → List Nat → List (List Nat)
  | 0, _ => [[]]
  | n + 1, A => (nxt R m A).flatMap fun r => (cont R m n (A ++ [r])).map (r :: ·)
/-- so far no row fails -/
def Fine (R : List (List Nat)) (A : List Nat) : Prop := ∀ row ∈ R, (∀ k ∈ A, sg row k = 46) ∨ ∀ c, hold row (A ++ c) = true
theorem Fine.nil {R : List (List Nat)} : Fine R [] := fun row _ => .inl fun k hk => by cases hk
end KK
set_option Elab.async false
set_option linter.all false
set_option maxRecDepth 100000
set_option maxHeartbeats 1000000
namespace KK
open PySem DE
end KK
set_option Elab.async false
set_option linter.all false
set_option maxRecDepth 100000
set_option maxHeartbeats 1000000
namespace KK
open PySem DE
def srtN (l : List Nat) : List Nat := l.mergeSort fun a b => decide (a ≤ b)
abbrev Tab := List (List L2.Key × D)
def kA (A : List Nat) : List L2.Key := A.map fun k => .inl ((k : Nat) : Int)
theorem kA_inj {A B : List Nat} (h : kA A = kA B) : A = B := by
  induction A generalizing B with
  | nil => cases B with
    | nil => rfl
    | cons b B => simp [kA] at h
  | cons a A ih =>
    cases B with
    | nil => simp [kA] at h
    | cons b B =>
      simp only [kA, List.map_cons, List.cons.injEq, Sum.inl.injEq] at h
      rw [ih h.2, show a = b by omega]
section
variable {κ : Type} [DecidableEq κ]
theorem valM_any {T : List (κ × D)} {k : κ} : (T.any fun kv => decide (kv.1 = k)) = (valM T k).isSome := by
  induction T with
  | nil => rfl
  | cons p T ih =>
    rw [List.any_cons, valM]
    by_cases e : p.1 = k
    · simp [e]
    · simp [e, ih]
theorem valM_map {k j : κ} {d : D} : ∀ T : List (κ × D), valM (T.map fun kv => if kv.1 = k then (kv.1, d) else kv) j = if j = k then (valM T j).map fun _ => d else valM T j
  | [] => by simp [valM]
  | p :: T => by
    have ih := valM_map (k := k) (j := j) (d := d) T
    rw [List.map_cons, valM, valM]
    by_cases e : p.1 = k
    · rw [if_pos e]
      by_cases e2 : p.1 = j
      · rw [if_pos e2, if_pos e2, if_pos (e2.symm.trans e)]; rfl
      · rw [if_neg e2, if_neg e2]; exact ih
    · rw [if_neg e]
      by_cases e2 : p.1 = j
      · rw [if_pos e2, if_pos e2, if_neg (fun q => e (e2.trans q))]
      · rw [if_neg e2, if_neg e2]; exact ih
theorem valM_snoc {k j : κ} {d : D} : ∀ T : List (κ × D), valM T k = none → valM (T ++ [(k, d)]) j = if j = k then some d else valM T j
  | [], _ => by
    rw [List.nil_append, valM, valM]
    by_cases e : k = j
    · rw [if_pos e, if_pos e.symm]
    · rw [if_neg e, if_neg (Ne.symm e)]; rfl
  | p :: T, h => by
    rw [valM] at h
    by_cases e : p.1 = k
    · rw [if_pos e] at h; cases h
    · rw [if_neg e] at h
      rw [List.cons_append, valM, valM, valM_snoc T h]
      by_cases e2 : p.1 = j
      · rw [if_pos e2, if_pos e2, if_neg (fun q => e (e2.trans q))]
      · rw [if_neg e2, if_neg e2]
theorem valM_put {T : List (κ × D)} {k j : κ} {d : D} : valM (putM T k d) j = if j = k then some d else valM T j := by
  unfold putM
  rw [valM_any]
  cases h : valM T k with
  | none =>
    rw [if_neg (by simp)]
    exact valM_snoc T h
  | some x =>
    rw [if_pos (show (some x).isSome = true from rfl), valM_map]
    by_cases e : j = k
    · rw [if_pos e, if_pos e, e, h]; rfl
    · rw [if_neg e, if_neg e]
theorem putM_keys {T : List (κ × D)} {k : κ} {d : D} : (putM T k d).map (·.1) = if (valM T k).isSome = true then T.map (·.1) else T.map (·.1) ++ [k] := by
  unfold putM
  rw [valM_any]
  split
  · rw [List.map_map]
    refine List.map_congr_left fun p _ => ?_
    show (if p.1 = k then (p.1, d) else p).1 = p.1
    split <;> rfl
  · rw [List.map_append]; rfl
theorem valM_none {T : List (κ × D)} {k : κ} : valM T k = none ↔ k ∉ T.map (·.1) := by
  induction T with
  | nil => simp [valM]
  | cons p T ih =>
    rw [valM, List.map_cons, List.mem_cons, not_or]
    by_cases e : p.1 = k
    · simp [e]
    · rw [if_neg e, ih]
      exact ⟨fun h => ⟨fun q => e q.symm, h⟩, fun h => h.2⟩
end
/-- a table of numbers of lots -/
structure TabI (m : Nat) (f : List Nat → Nat) (T : Tab) : Prop where
  v : ∀ A ∈ lots m, ∀ d, valM T (kA A) = some d → d = .int (f A : Nat)
  k : ∀ x ∈ T.map (·.1), ∃ A ∈ lots m, x = kA A
  nd : (T.map (·.1)).Nodup
theorem nodup_sub {α : Type} [DecidableEq α] : ∀ {l k : List α}, l.Nodup → (∀ x ∈ l, x ∈ k) → l.length ≤ k.length
  | [], _, _, _ => Nat.zero_le _
  | a :: l, k, nd, h => by
    rw [List.nodup_cons] at nd
    have h1 := nodup_sub (l := l) (k := k.erase a) nd.2 fun x hx => (List.mem_erase_of_ne (fun q : x = a => nd.1 (by rw [← q]; exact hx))).mpr (h x (List.mem_cons_of_mem _ hx))
    have ha : a ∈ k := h a (List.mem_cons_self ..)
    rw [List.length_erase_of_mem ha] at h1
    have : 0 < k.length := List.length_pos_of_mem ha
    rw [List.length_cons]; omega
theorem TabI.len {m : Nat} {f : List Nat → Nat} {T : Tab} (h : TabI m f T) (hm : m ≤ 8) : T.length < 65000 := by
  have h1 := nodup_sub (l := T.map (·.1)) (k := (lots m).map kA) h.nd fun x hx => by
    obtain ⟨A, hA, rfl⟩ := h.k x hx
    exact List.mem_map_of_mem hA
  rw [List.length_map, List.length_map, lots_len] at h1
  have h2 : 2 ^ m ≤ 2 ^ 8 := Nat.pow_le_pow_right (by omega) hm
  have h3 : 2 ^ 8 = 256 := by decide
  omega
theorem TabI.put {m : Nat} {f : List Nat → Nat} {T : Tab} (h : TabI m f T) {A : List Nat} (hA : A ∈ lots m) : TabI m f (putM T (kA A) (.int (f A : Nat))) := by
  refine ⟨fun B hB d e => ?_, fun x hx => ?_, ?_⟩
  · rw [valM_put] at e
    by_cases q : kA B = kA A
    · rw [if_pos q] at e
      cases e
      rw [kA_inj q]
    · rw [if_neg q] at e
      exact h.v B hB d e
  · rw [putM_keys] at hx
    split at hx
    · exact h.k x hx
    · rcases List.mem_append.mp hx with q | q
      · exact h.k x q
      · exact ⟨A, hA, List.mem_singleton.mp q⟩
  · rw [putM_keys]
    split
    · exact h.nd
    · rename_i q
      have : valM T (kA A) = none := by
        cases e : valM T (kA A) with
        | none => rfl
        | some d => rw [e] at q; exact absurd rfl q
      rw [valM_none] at this
      rw [List.nodup_append]
      refine ⟨h.nd, by simp, fun a ha b hb => ?_⟩
      rw [List.mem_singleton.mp hb]
      rintro rfl; exact this ha
theorem TabI.nil {m : Nat} {f : List Nat → Nat} : TabI m f [] := ⟨fun A _ d e => (by cases e), fun x hx => (by cases hx), List.nodup_nil⟩
end KK
set_option Elab.async false
set_option linter.all false
set_option maxRecDepth 100000
set_option maxHeartbeats 2000000
namespace KK
open PySem DE
end KK
namespace DE
open PySem
end DE
set_option Elab.async false
set_option linter.all false
set_option maxRecDepth 100000
set_option maxHeartbeats 2000000
namespace KK
open PySem DE
end KK
set_option Elab.async false
set_option linter.all false
set_option maxRecDepth 100000
set_option maxHeartbeats 2000000
namespace KK
open PySem DE
theorem SqD.pl {rs : D} {R : List (List Nat)} (h : SqD rs R) : rs.plain = true := by rcases h with rfl | rfl <;> rfl
end KK
set_option Elab.async false
set_option linter.all false
set_option maxRecDepth 100000
set_option maxHeartbeats 1000000
namespace KK
open PySem DE
/-- in how many ways a lot can stand above the others -/
def stc (R : List (List Nat)) (m : Nat) (A : List Nat) : Nat := (cont R m A.length []).countP fun o => decide (srtN o = A)
theorem stc_nil {R : List (List Nat)} {m : Nat} : stc R m [] = 1 := by
  unfold stc
  simp [cont, srtN]
end KK
set_option Elab.async false
set_option linter.all false
set_option maxRecDepth 100000
set_option maxHeartbeats 2000000
namespace KK
open PySem DE
structure TabS (R : List (List Nat)) (m : Nat) (U : Tab) : Prop where
  t : TabI m (stc R m) U
  z : valM U (kA []) = some (.int 1)
theorem lot_nil {m : Nat} : ([] : List Nat) ∈ lots m := (mem_lots m []).mpr ⟨List.Pairwise.nil, fun k hk => by cases hk⟩
theorem TabS.put {R : List (List Nat)} {m : Nat} {U : Tab} (h : TabS R m U) {A : List Nat} (hA : A ∈ lots m) (hn : A ≠ []) : TabS R m (putM U (kA A) (.int (stc R m A : Nat))) := by
  refine ⟨h.t.put hA, ?_⟩
  rw [valM_put, if_neg fun q => hn (kA_inj q).symm, h.z]
theorem TabS.init {R : List (List Nat)} {m : Nat} : TabS R m [([], .int 1)] := by
  refine ⟨⟨fun A hA d e => ?_, fun x hx => ?_, by simp⟩, rfl⟩
  · cases A with
    | nil =>
      have : valM [(([] : List L2.Key), D.int 1)] (kA []) = some (.int 1) := rfl
      rw [this] at e
      cases e
      rw [stc_nil]; rfl
    | cons a A =>
      have : valM [(([] : List L2.Key), D.int 1)] (kA (a :: A)) = none := by
        rw [valM, if_neg (by simp [kA])]; rfl
      rw [this] at e
      cases e
  · rw [List.map_singleton, List.mem_singleton] at hx
    exact ⟨[], lot_nil, hx⟩
end KK
set_option Elab.async false
set_option linter.all false
set_option maxRecDepth 100000
set_option maxHeartbeats 2000000
namespace KK
open PySem DE
end KK
set_option Elab.async false
set_option linter.all false
set_option maxRecDepth 100000
set_option maxHeartbeats 2000000
namespace KK
open PySem DE
theorem Bk.rows {L R R' : List (List Nat)} (h : Bk L R) (hr : ∀ r ∈ R', Row L.length r) (hl : R'.length ≤ 20) : Bk L R' := ⟨h.n, h.l1, h.l8, hr, hl⟩
theorem Bk.del {L R : List (List Nat)} (h : Bk L R) (k : Nat) : Bk L (R.eraseIdx k) :=
  h.rows (fun r hr => h.r r (List.mem_of_mem_eraseIdx hr)) (by have := h.r20; have := List.length_eraseIdx_le R k; omega)
end KK
set_option Elab.async false
set_option linter.all false
set_option maxRecDepth 100000
set_option maxHeartbeats 1000000
namespace KK
open PySem DE
end KK
set_option Elab.async false
set_option linter.all false
set_option maxRecDepth 100000
set_option maxHeartbeats 2000000
namespace KK
open PySem DE
end KK
set_option Elab.async false
set_option linter.all false
set_option maxRecDepth 100000
set_option maxHeartbeats 1000000
namespace KK
open PySem DE
end KK
set_option Elab.async false
set_option linter.all false
set_option maxRecDepth 100000
set_option maxHeartbeats 1000000
namespace DE
open PySem
end DE
set_option Elab.async false
set_option linter.all false
set_option maxRecDepth 100000
set_option maxHeartbeats 2000000
namespace KK
open PySem DE
end KK
set_option Elab.async false
set_option linter.all false
set_option maxRecDepth 100000
set_option maxHeartbeats 2000000
namespace KK
open PySem DE
abbrev Fk := List (List Nat × List Nat)
structure Folk (m : Nat) (F : Fk) : Prop where
  n : Names (F.map (·.1))
  l : ∀ q ∈ F, q.2.length = m
  b : ∀ q ∈ F, ∀ x ∈ q.2, x < 100
end KK
set_option Elab.async false
set_option linter.all false
set_option maxRecDepth 100000
set_option maxHeartbeats 2000000
namespace KK
open PySem DE
end KK
set_option Elab.async false
set_option linter.all false
set_option maxRecDepth 100000
set_option maxHeartbeats 2000000
namespace KK
open PySem DE
def dg (x : Nat) : List Nat := strL ((x : Nat) : Int)
structure Cs (m : Nat) (F : Fk) : Prop where
  f : Folk m F
  l2 : 2 ≤ F.length
  l8 : F.length ≤ 8
  m1 : 1 ≤ m
  m8 : m ≤ 8
theorem Cs.w {m : Nat} {F : Fk} (h : Cs m F) {q : List Nat × List Nat} (hq : q ∈ F) : isWord q.1 = true := h.f.n.w q.1 (List.mem_map_of_mem hq)
end KK
set_option Elab.async false
set_option linter.all false
set_option maxRecDepth 100000
set_option maxHeartbeats 2000000
namespace KK
open PySem DE
/-- the words of a part -/
def wl (q : List Nat × List Nat) : List D := (q.1 :: q.2.map dg).map D.str
theorem wl1 {q : List Nat × List Nat} : slD (.lst (wl q)) (some 1) none = some (.lst (q.2.map fun x => D.str (dg x))) := by
  have := sl_lst_from (ds := (q.1 :: q.2.map dg).map D.str) (k := 0)
  have mm : (q.2.map dg).map D.str = q.2.map fun x => D.str (dg x) := by rw [List.map_map]; rfl
  rw [← mm]
  exact this
end KK
set_option Elab.async false
set_option linter.all false
set_option maxRecDepth 100000
set_option maxHeartbeats 2000000
namespace KK
open PySem DE
def sg2 (x y : Nat) : Nat := if x = y then 46 else if x < y then 43 else 45
def ra (a b : List Nat) : List Nat := (a.zip b).map fun p => sg2 p.1 p.2
/-- the marks of the candidate at i -/
def mk (F : Fk) (i : Nat) : List Nat := (F.getD i ([], [])).2
end KK
set_option Elab.async false
set_option linter.all false
set_option maxRecDepth 100000
set_option maxHeartbeats 2000000
namespace KK
open PySem DE
/-- the tag of the candidate at i -/
def tg (F : Fk) (i : Nat) : List Nat := (F.getD i ([], [])).1
end KK
set_option Elab.async false
set_option linter.all false
set_option maxRecDepth 100000
set_option maxHeartbeats 2000000
namespace KK
open PySem DE
end KK
set_option Elab.async false
set_option linter.all false
set_option maxRecDepth 100000
set_option maxHeartbeats 2000000
namespace KK
open PySem DE
def frD (a b : Nat) : D := .tup [.int ((a / Nat.gcd a b : Nat) : Int), .int ((b / Nat.gcd a b : Nat) : Int)]
end KK
set_option Elab.async false
set_option linter.all false
set_option maxRecDepth 100000
set_option maxHeartbeats 2000000
namespace KK
open PySem DE
end KK
set_option Elab.async false
set_option linter.all false
set_option maxRecDepth 100000
set_option maxHeartbeats 2000000
namespace DE
open PySem
end DE
namespace KK
open PySem DE
end KK
set_option Elab.async false
set_option linter.all false
set_option maxRecDepth 100000
set_option maxHeartbeats 2000000
namespace KK
open PySem DE
end KK
set_option Elab.async false
set_option linter.all false
set_option maxRecDepth 100000
set_option maxHeartbeats 1000000
namespace DE
open PySem
def isEB (a : Addr) : Option (Option DV) → Bool
  | some (some (.obj b)) => b == a
  | _ => false
theorem dd_isEB {a : Addr} : isEB a (some (some (.obj a))) = true := by simp [isEB]
theorem dd_hIsi {i : Nat} {T : Str} {tb : Nat → Bool} {a : Addr} {c : Nat} {z : Z} : evE (hIsi i T tb a c) z = if isEB a z.1[i]? = true then some (.bl (tb c), z) else none := rfl
def kHr (z : Z) (d : D) : D × Z := (d, z)
theorem dd_hFld {i k : Nat} {f : Str} {a : Addr} {fs : List (Nat × D)} {z : Z} : evE (hFld i f k a fs) z = if isEB a z.1[i]? = true then (fs.lookup k).map (kHr z) else none := rfl
theorem dd_hCall {f : Str} {i n : Nat} {g : Addr → Nat → List (Nat × D) → Fn} {es : Es} {a : Addr} {c : Nat} {fs : List (Nat × D)} {z : Z} : evE (hCall f i n g es a c fs) z = if isEB a z.1[i]? = true then (evEs es z).bind (callB n (g a c fs)) else none := rfl
end DE
set_option Elab.async false
set_option linter.all false
set_option maxRecDepth 100000
set_option maxHeartbeats 2000000
namespace KK
open PySem DE
end KK
set_option Elab.async false
set_option linter.all false
set_option maxRecDepth 100000
set_option maxHeartbeats 4000000
namespace KK
open PySem DE
theorem go {s : S} {ss : Ss} {z z' : Z} (h : evS s z = some (.nx, z')) : evSs (.cons s ss) z = evSs ss z' := by
  rw [S_cons, h, Option.bind_some, seq_nx]
theorem rd_shp {z : Z} {d t : D} (h : reprD d = some t) : rd z d = some d ∧ ∃ s, t = .str s := by
  unfold reprD at h
  split at h
  · rename_i q
    cases h
    refine ⟨?_, _, rfl⟩
    cases d <;> first | rfl | (simp [shp, isD, cost, dpt] at q)
  · cases h
section
variable {a : Addr} {c : Nat} {w x y : Option DV} {S : Store} {fs : List (Nat × D)}
theorem hI {T : Str} {t : Nat → Bool} {ρ : Rho} : evE (hIsi 0 T t a c) (some (.obj a) :: ρ, S) = some (.bl (t c), (some (.obj a) :: ρ, S)) := by
  rw [dd_hIsi, List.getElem?_cons_zero, dd_isEB, if_pos rfl]
theorem hF {f : Str} {k : Nat} {d : D} {ρ : Rho} (h : fs.lookup k = some d) : evE (hFld 0 f k a fs) (some (.obj a) :: ρ, S) = some (d, (some (.obj a) :: ρ, S)) := by
  rw [dd_hFld, List.getElem?_cons_zero, dd_isEB, if_pos rfl, h]
  rfl
theorem hR {f : Str} {k : Nat} {d t : D} {ρ : Rho} (h : fs.lookup k = some d) (hr : reprD d = some t) : evE (.bc "repr" (f1 reprD) (.cons (hFld 0 f k a fs) .nil)) (some (.obj a) :: ρ, S) = some (t, (some (.obj a) :: ρ, S)) := by
  rw [A_bc, A_cons, hF h, Option.bind_some]
  show (rdAll (some (.obj a) :: ρ, S) [d]).bind _ = _
  unfold rdAll
  rw [(rd_shp hr).1, Option.bind_some]
  show ((reprD d).map _) = _
  rw [hr]
  rfl
theorem hC {f : Str} {i n : Nat} {g : Addr → Nat → List (Nat × D) → Fn} {es : Es} {z : Z} {ds : List D} {r : D} (hi : z.1[i]? = some (some (.obj a))) (he : evEs es z = some (ds, z)) (hl : lendAll z ds = some ds) (hn : ds.length = n) (hg : g a c fs ds z.2 = some (r, z.2)) : evE (hCall f i n g es a c fs) z = some (r, z) := by
  rw [dd_hCall, hi, dd_isEB, if_pos rfl, he, Option.bind_some]
  unfold callB kCall
  rw [hl, Option.bind_some, if_pos hn, hg]
  rfl
theorem fin {e E1 : E} {z : Z} {t : D} (h : evE e z = evE E1 z) (h1 : evE E1 z = some (t, z)) (p : t.plain = true) : evSs (.cons (.ret e) .nil) z = some (.rt t, z) := by
  rw [S_cons, S_ret, h, h1, Option.bind_some]
  unfold retB
  rw [if_pos p]
  rfl
theorem st2 {T1 T2 : Str} {t1 t2 : Nat → Bool} {ρ : Rho} : evE (.fr (.dsp (.cons (hIsi 0 T1 t1 a c) (.cons (hIsi 0 T2 t2 a c) .nil)))) (some (.obj a) :: ρ, S) = some (.lst [.bl (t1 c), .bl (t2 c)], (some (.obj a) :: ρ, S)) := by
  rw [A_fr, F_dsp, A_cons, hI, Option.bind_some]
  show Option.map _ ((Option.map _ (evEs (.cons (hIsi 0 T2 t2 a c) .nil) (some (.obj a) :: ρ, S))).bind _) = _
  rw [A_cons, hI, Option.bind_some]
  rfl
theorem st3 {T1 T2 T3 : Str} {t1 t2 t3 : Nat → Bool} {ρ : Rho} : evE (.fr (.dsp (.cons (hIsi 0 T1 t1 a c) (.cons (hIsi 0 T2 t2 a c) (.cons (hIsi 0 T3 t3 a c) .nil))))) (some (.obj a) :: ρ, S) = some (.lst [.bl (t1 c), .bl (t2 c), .bl (t3 c)], (some (.obj a) :: ρ, S)) := by
  rw [A_fr, F_dsp, A_cons, hI, Option.bind_some]
  show Option.map _ ((Option.map _ (evEs (.cons (hIsi 0 T2 t2 a c) (.cons (hIsi 0 T3 t3 a c) .nil)) (some (.obj a) :: ρ, S))).bind _) = _
  rw [A_cons, hI, Option.bind_some]
  show Option.map _ ((Option.map _ (Option.map _ (evEs (.cons (hIsi 0 T3 t3 a c) .nil) (some (.obj a) :: ρ, S)))).bind _) = _
  rw [A_cons, hI, Option.bind_some]
  rfl
end
end KK
set_option Elab.async false
set_option linter.all false
set_option maxRecDepth 100000
set_option maxHeartbeats 2000000
namespace KK
open PySem DE
end KK
set_option Elab.async false
set_option linter.all false
set_option maxRecDepth 100000
set_option maxHeartbeats 2000000
namespace KK
open PySem DE
end KK
set_option Elab.async false
set_option linter.all false
set_option maxRecDepth 100000
set_option maxHeartbeats 2000000
namespace KK
open PySem DE
end KK
set_option Elab.async false
set_option linter.all false
set_option maxRecDepth 100000
set_option maxHeartbeats 2000000
namespace KK
open PySem DE
end KK
set_option Elab.async false
set_option linter.all false
set_option maxRecDepth 100000
set_option maxHeartbeats 2000000
namespace KK
open PySem DE
/-- purses alone -/
def Ps (S : Store) : Prop := ∀ x ∈ S, Purse x
theorem Ps.cl {S : Store} (h : Ps S) : Cl S := fun x hx n => purse_noh (h x hx) n
end KK
set_option Elab.async false
set_option linter.all false
set_option maxRecDepth 100000
set_option maxHeartbeats 4000000
namespace KK
open PySem DE
end KK
set_option Elab.async false
set_option linter.all false
set_option maxRecDepth 100000
set_option maxHeartbeats 4000000
namespace KK
open PySem DE
end KK
set_option Elab.async false
set_option linter.all false
set_option maxRecDepth 100000
set_option maxHeartbeats 4000000
namespace KK
open PySem DE
end KK
set_option Elab.async false
set_option linter.all false
set_option maxRecDepth 100000
set_option maxHeartbeats 4000000
namespace KK
open PySem PySem.Spec L2 DE
def top (i : Nat) : Stmt := PySem.Challenge.pw_rankedrules_k01_constants_and_errors.main.body.getD i (.Pass ⟨0, 0, 0, 0⟩)
abbrev s_law_flags_k1 : Stmt := top 36
abbrev s_law_firsts : Stmt := top 34
abbrev s_law_seconds : Stmt := top 35
abbrev s_law_draw : Stmt := top 32
abbrev s_law_thing_v1 : Stmt := top 33
abbrev s_law_right : Stmt := top 37
abbrev s_law_purse : Stmt := top 31
abbrev s_law : Stmt := top 38
end KK
set_option Elab.async false
set_option linter.all false
set_option maxRecDepth 100000
set_option maxHeartbeats 4000000
namespace KK
open PySem PySem.Spec L2 DE
def tfn : List Str := []
def d_law_flags_k1 : He.DefD := ⟨("_law_flags", none), "_law_flags", "_law_flags", defArgs s_law_flags_k1, defBody s_law_flags_k1, defScope s_law_flags_k1, [], []⟩
def d_law_firsts : He.DefD := ⟨("_law_firsts", none), "_law_firsts", "_law_firsts", defArgs s_law_firsts, defBody s_law_firsts, defScope s_law_firsts, [], []⟩
def d_law_seconds : He.DefD := ⟨("_law_seconds", none), "_law_seconds", "_law_seconds", defArgs s_law_seconds, defBody s_law_seconds, defScope s_law_seconds, [], []⟩
def d_law_draw : He.DefD := ⟨("_law_draw", none), "_law_draw", "_law_draw", defArgs s_law_draw, defBody s_law_draw, defScope s_law_draw, [], []⟩
def d_law_thing_v1 : He.DefD := ⟨("_law_thing", none), "_law_thing", "_law_thing", defArgs s_law_thing_v1, defBody s_law_thing_v1, defScope s_law_thing_v1, [], []⟩
def d_law_right : He.DefD := ⟨("_law_right", none), "_law_right", "_law_right", defArgs s_law_right, defBody s_law_right, defScope s_law_right, [], []⟩
def d_law_purse : He.DefD := ⟨("_law_purse", none), "_law_purse", "_law_purse", defArgs s_law_purse, defBody s_law_purse, defScope s_law_purse, [], []⟩
def d_law : He.DefD := ⟨("law", none), "law", "law", defArgs s_law, defBody s_law, defScope s_law, [], []⟩
def fn : List He.DefD := [d_law_flags_k1, d_law_firsts, d_law_seconds, d_law_draw, d_law_thing_v1, d_law_right, d_law_purse, d_law]
def fa : List He.Fa := [.glo "_law_flags", .glo "_law_firsts", .glo "_law_seconds", .glo "_law_draw", .glo "_law_thing", .glo "_law_right", .glo "_law_purse", .glo "law", .free "ArithmeticError", .free "ValueError", .free "abs", .free "all", .free "divmod", .free "enumerate", .free "int", .free "isinstance", .free "len", .free "max", .free "min", .free "range", .free "repr", .int "MOST_CANDIDATES" 8, .int "MOST_CASES" 4, .int "MOST_MARKS" 99, .int "MOST_OFFERS" 8, .int "MOST_ROWS" 20, .int "MOST_RULES" 8, .int "MOST_STRUCK" 10, .glo "InvalidCases", .glo "InvalidOffers", .glo "InvalidLot", .glo "NotACourt", .glo "NotACase", .glo "NotABook", .glo "UnknownName", .glo "InvalidRule", .glo "InvalidRanking", .glo "InvalidRow", .glo "InvalidClaim", .glo "InvalidIndex", .glo "InvalidName", .glo "InvalidNumber", .glo "InvalidText", .glo "NothingToUndo", .glo "InUse", .glo "Broken", .glo "TooMany", .glo "NoRanking", .glo "NoAnswer", .glo "WrongValue"]
def kb : List (String × List Nat) := [("ArithmeticError", [4, 20, 21, 22, 23, 24]), ("ValueError", [3, 5, 6, 7, 8, 9, 10, 11, 12, 13, 14, 15, 16, 17, 18, 19])]
def cn : List (Nat × Str) := [(19, "InvalidCases"), (18, "InvalidOffers"), (17, "InvalidLot"), (16, "NotACourt"), (15, "NotACase"), (14, "NotABook"), (13, "UnknownName"), (12, "InvalidRule"), (11, "InvalidRanking"), (10, "InvalidRow"), (9, "InvalidClaim"), (8, "InvalidIndex"), (7, "InvalidName"), (6, "InvalidNumber"), (5, "InvalidText"), (24, "NothingToUndo"), (23, "InUse"), (22, "Broken"), (21, "TooMany"), (20, "NoRanking")]
def kt : List (Str × List Nat) := [("NoAnswer", [4, 20, 21, 22, 23, 24]), ("WrongValue", [3, 5, 6, 7, 8, 9, 10, 11, 12, 13, 14, 15, 16, 17, 18, 19]), ("NothingToUndo", [24]), ("InUse", [23]), ("Broken", [22]), ("TooMany", [21]), ("NoRanking", [20]), ("InvalidCases", [19]), ("InvalidOffers", [18]), ("InvalidLot", [17]), ("NotACourt", [16]), ("NotACase", [15]), ("NotABook", [14]), ("UnknownName", [13]), ("InvalidRule", [12]), ("InvalidRanking", [11]), ("InvalidRow", [10]), ("InvalidClaim", [9]), ("InvalidIndex", [8]), ("InvalidName", [7]), ("InvalidNumber", [6]), ("InvalidText", [5])]
def ex (K : PySem.W.Frag) : Bool := ((exB true K (He.ga K "InvalidCases") && xc1B K "InvalidCases" "index")) && (((exB true K (He.ga K "InvalidOffers") && xc1B K "InvalidOffers" "index")) && (((exB true K (He.ga K "InvalidLot") && xc1B K "InvalidLot" "index")) && (((exB true K (He.ga K "NotACourt") && xc1B K "NotACourt" "given")) && (((exB true K (He.ga K "NotACase") && xc1B K "NotACase" "given")) && (((exB true K (He.ga K "NotABook") && xc1B K "NotABook" "given")) && (((exB true K (He.ga K "UnknownName") && xc1B K "UnknownName" "given")) && (((exB true K (He.ga K "InvalidRule") && xc1B K "InvalidRule" "given")) && (((exB true K (He.ga K "InvalidRanking") && xc1B K "InvalidRanking" "given")) && (((exB true K (He.ga K "InvalidRow") && xc1B K "InvalidRow" "given")) && (((exB true K (He.ga K "InvalidClaim") && xc1B K "InvalidClaim" "given")) && (((exB true K (He.ga K "InvalidIndex") && xc1B K "InvalidIndex" "given")) && (((exB true K (He.ga K "InvalidName") && xc1B K "InvalidName" "given")) && (((exB true K (He.ga K "InvalidNumber") && xc1B K "InvalidNumber" "given")) && (((exB true K (He.ga K "InvalidText") && xc1B K "InvalidText" "given")) && (((exB false K (He.ga K "NothingToUndo") && xc0B false K "NothingToUndo")) && (((exB false K (He.ga K "InUse") && xc1B K "InUse" "index")) && (((exB false K (He.ga K "Broken") && xc2B K "Broken")) && (((exB false K (He.ga K "TooMany") && xc1B K "TooMany" "number")) && (((exB false K (He.ga K "NoRanking") && xc0B false K "NoRanking")) && ((kitsB K cn kt) && ((sysB K) && ((kitbB K cn kb)))))))))))))))))))))))
def ts : List He.Tab := []
def tfs : List He.Defn := tfn.map fun d => (d, none)
end KK
set_option Elab.async false
set_option linter.all false
set_option maxRecDepth 100000
set_option maxHeartbeats 0
namespace KK
open PySem PySem.Spec PyProof.Rows L2 DE
abbrev R : PySem.W.OpenRow := PySem.W.OpenLaw.row PySem.Challenge.rw_rankedrules_k01_constants_and_errors
def LA : List Addr := ([1, 3, 6, 4, 24, 37, 57, 76, 95, 114, 133, 152, 171, 190, 209, 228, 247, 266, 285, 304, 323, 335, 354, 373, 392, 404, 413, 420, 427, 434, 441, 448, 453, 458, 0, 23, 36, 56, 75, 94, 113, 132, 151, 170, 189, 208, 227, 246, 265, 284, 303, 322, 334, 353, 372, 391, 403, 412, 419, 426] : List Addr) ++ ([433, 440, 447, 452, 457, 22, 25, 35, 38, 54, 55, 73, 74, 92, 93, 111, 112, 130, 131, 149, 150, 168, 169, 187, 188, 206, 207, 225, 226, 244, 245, 263, 264, 282, 283, 301, 302, 320, 321, 333, 351, 352, 370, 371, 389, 390, 402, 407, 408, 409, 410, 411, 414, 415, 416, 417, 418, 421, 422, 423] : List Addr) ++ ([424, 425, 428, 429, 430, 431, 432, 435, 436, 437, 438, 439, 442, 443, 444, 445, 446, 449, 450, 451, 454, 455, 456, 53, 72, 91, 110, 129, 148, 167, 186, 205, 224, 243, 262, 281, 300, 319, 350, 369, 388] : List Addr)
abbrev hk : PySem.W.Hook := hookL LA fa fn ts tfs ex
def ob (s : PySem.W.SharedT) : He.AlT × Bool := obsL LA fa fn ts tfs ex (HandSHeadRun.getT s)
def loose : List PySem.Str := (["__name__", "WrongValue", "NoAnswer", "InvalidText", "InvalidNumber", "InvalidName", "InvalidIndex", "InvalidClaim", "InvalidRow", "InvalidRanking", "InvalidRule", "UnknownName", "NotABook", "NotACase", "NotACourt", "InvalidLot", "InvalidOffers", "InvalidCases", "NoRanking", "TooMany", "Broken", "InUse", "NothingToUndo", "MOST_RULES", "MOST_ROWS", "MOST_CANDIDATES", "MOST_MARKS", "MOST_STRUCK", "MOST_OFFERS", "MOST_CASES"] : List PySem.Str) ++ (["_law_purse", "_law_draw", "_law_thing", "_law_firsts", "_law_seconds", "_law_flags", "_law_right"] : List PySem.Str)
theorem run (w : World) : HandSHeadRun.RunEq R (PySem.W.view R.prog [38]) hk ob 9000 loose w := by
  intro os
  kernel_rfl
end KK
namespace KK
open PySem PySem.Spec PyProof.Rows L2 DE PySem.W PySem.Calls
end KK
set_option Elab.async false
set_option linter.all false
set_option maxRecDepth 100000
set_option maxHeartbeats 4000000
namespace DE
open PySem PySem.Spec PyProof.Rows L2
instance noClo : CloT := ⟨fun _ _ => false⟩
section
variable {W : Wd} {ι : List Addr} {H : Hp}
theorem RepL.getV : ∀ {ds : List D} {vs : List V} {i : Nat} {v : V}, RepL W ι H ds vs → vs[i]? = some v → ∃ d, ds[i]? = some d ∧ Rep W ι H d v ∧ d.plain = true := fun {ds vs i v} h e => by
  have hl := h.length
  have hi : i < vs.length := (List.getElem?_eq_some_iff.mp e).1
  have e2 : ds[i]? = some (ds[i]'(by omega)) := List.getElem?_eq_getElem (by omega)
  obtain ⟨u, h1, h2, h3⟩ := h.get e2
  rw [e] at h1; cases h1
  exact ⟨_, e2, h2, h3⟩
end
end DE
set_option Elab.async false
set_option linter.all false
set_option maxRecDepth 100000
set_option maxHeartbeats 4000000
namespace DE
open PySem PySem.Spec L2
end DE
set_option Elab.async false
set_option linter.all false
set_option maxRecDepth 100000
set_option maxHeartbeats 4000000
namespace DE
open PySem PySem.Spec PyProof.Rows L2
section
variable {P : Program} {w : World} {K : PySem.W.Frag} {mg : Str → Option Value} {base : Heap} {j k : Nat} {f : Addr} {fd : FuncData} {ps : List Str} {sp sp' : Sp}
/-- by the body -/
theorem fnG_of {x qual : Str} {params : Arguments} {body : List Stmt} {scope : Scope} {dvs : List V} {kws : List (Str × V)} {N : List Str} (F : FunD K x qual params body scope dvs kws f fd) (S : FnScope N ps scope) (len : ∀ vs H Q E, sp vs H Q E → vs.length = ps.length)
    (hbody : ∀ (cdv : Value), fd.code = cdv → ∀ (A : Around) (outer : List Env) (s : Shared) (H : Hp) (vs : List V) (Q : VK) (E : XK), Room k (A.deeper (envOfC qual scope s.heap.objs.size f cdv)) → A.guards = some [] → sp vs H Q E →
      ∃ t, PSs (cxOf L2.CX0 P w K mg base N qual scope f cdv A outer s H E) body t ∧ t { nx := fun _ H' => Q .non H', rt := Q } (start N vs) H) : FnG P w K mg base (k + 1) f fd ps sp := by
  obtain ⟨oc, od, dV, kV, doc, pm, an, cdv, ct, osl, rfl, lk, hcd, _, _⟩ := F.ex
  refine ⟨len, fun A outer s H args us vs Q E hr hgd e0 hb r hsp => ?_⟩
  have hl := len _ _ _ _ hsp
  have KX : K.In s.heap := e0.mod.kin.keeps fun b o e => (e0.bs b o e).1
  have lim : s.heap.NoLimit := e0.mod.nolimit.keeps fun b o e => (e0.bs b o e).1
  refine codeAny_call_function hr.depth (KX _ _ lk) rfl S.co S.gen rfl (PySem.W.codeRec_of KX hcd) (hb _ _ _ _ ?_)
  refine wpAny_newFunctionEnv_cells S.kind (fun y hy => (S.par y.1 (List.of_mem_zip (show (y.1, y.2) ∈ _ from hy)).1).imp id fun q => ⟨q, PySem.W.cellsFrom_some _ _ _ (.inl q)⟩) fun env he s1 x => ?_
  subst he
  refine ⟨lim.keeps x.toInCall.keep, codeAny_func ?_⟩
  obtain ⟨t, ht, hq⟩ := hbody cdv rfl A outer s H vs Q E (hr.deeper _) hgd hsp
  refine wpAny_mono (ht.run [] s1 (start N vs) H _ (inv_start S hr.hd e0 hl r x) hq) (fun fl s' hs => ?_) fun e s' hs => hs
  cases fl with
  | ret u => obtain ⟨v, σ', H', J, rv, q⟩ := hs; exact ⟨v, H', J.os, J.bare, J.base, J.hok, rv, q⟩
  | next => obtain ⟨σ', H', J, q⟩ := hs; exact ⟨.non, H', J.os, J.bare, J.base, J.hok, (rfl : Value.none = Value.none), q⟩
  | brk => obtain ⟨_, _, _, q⟩ := hs; exact q.elim
  | cont => obtain ⟨_, _, _, q⟩ := hs; exact q.elim
end
section
variable {X : Cx} {k : Nat} {f C : Addr} {fd : FuncData} {ps ks : List Str} {sp : Sp} {E : XK} {x m : Str} {p pos apos : Pos} {e o : Expr} {es : List Expr} {kws : List Keyword} {ta : TE} {t tk : TA}
  {pins : List (Addr × Obj)} {σ : L2.St} {H : Hp} {s : Shared} {Q : VK} {us ws : List Value} {vs zs : List V}
end
end DE
set_option Elab.async false
set_option linter.all false
set_option maxRecDepth 100000
set_option maxHeartbeats 4000000
namespace DE
open PySem PySem.Spec L2
end DE
set_option Elab.async false
set_option linter.all false
set_option maxRecDepth 100000
set_option maxHeartbeats 4000000
namespace DE
open PySem PySem.Spec L2
section
variable {X : Cx} {W : Wd} {B : Bs} {a b c e : Expr} {fa fb fc : Ev} {pos : Pos}
variable {o : Expr} {es : List Expr} {name : Str} {apos cpos : Pos} {T id : String} {r : V → List V → Hp → VK → Prop}
theorem rrep_int {ι : List Addr} {H : Hp} {i : Int} {v : V} (h : RRep W ι H (.int i) v) : v = .int i := by
  obtain ⟨_, h⟩ := h
  unfold Rep at h
  exact h
theorem rdM {pins : List (Addr × Obj)} {σ : L2.St} {H : Hp} {s : Shared} {l : Addr} {xs : List V} (I : Inv X pins σ H s) (hH : LsR X.K H l xs) : xs.length ≤ sizeLine ∧ ∃ (its : List Value) (n : Nat), Vals xs its ∧ xs.length = its.length ∧ s.heap.get? l = some { cls := .type "list", data := .seq its.toArray n } := by
  rcases hH with hH | ⟨its, n, e, z, r⟩
  · obtain ⟨z, its, n, r, e⟩ := hH.ok I.hok
    exact ⟨z, its, n, r, r.length, e⟩
  · have hl := r.length
    refine ⟨by rw [hl, Array.length_toList]; exact z, its.toList, n, r, hl, ?_⟩
    have := I.kIn _ _ e
    simpa using this
end
end DE
set_option Elab.async false
set_option linter.all false
set_option maxRecDepth 100000
set_option maxHeartbeats 4000000
namespace DE
open PySem PySem.Spec L2
end DE
set_option Elab.async false
set_option linter.all false
set_option maxRecDepth 100000
set_option maxHeartbeats 4000000
namespace DE
open PySem PySem.Spec L2
end DE
set_option Elab.async false
set_option linter.all false
set_option maxRecDepth 100000
set_option maxHeartbeats 4000000
namespace DE
open PySem PySem.Spec L2
end DE
set_option Elab.async false
set_option linter.all false
set_option maxRecDepth 100000
set_option maxHeartbeats 4000000
namespace DE
open PySem PySem.Spec L2
end DE
set_option Elab.async false
set_option linter.all false
set_option maxRecDepth 100000
set_option maxHeartbeats 8000000
namespace DE
open PySem PySem.Spec L2
end DE
set_option Elab.async false
set_option linter.all false
set_option maxRecDepth 100000
set_option maxHeartbeats 8000000
namespace DE
open PySem PySem.Spec L2
theorem cdOk_nil {G : GX} {cd : Value} (h : G.W.tb = []) : CdOk G cd := fun nm _ P hp => by rw [h] at hp; cases hp
theorem cdOk_no {G : GX} {cd : Value} (h : (cdNms.any fun nm => (G.W.tb.map (·.2)).contains (G.qn ++ nm)) = false) : CdOk G cd := fun nm hn P hp => by
  have h1 : (G.W.tb.map (·.2)).contains (G.qn ++ nm) = true := by rw [List.contains_iff_mem]; exact List.mem_map.mpr ⟨_, hp, rfl⟩
  have h2 := List.any_eq_false.mp h nm hn
  exact absurd h1 h2
end DE
set_option Elab.async false
set_option linter.all false
set_option maxRecDepth 100000
set_option maxHeartbeats 8000000
namespace DE
open PySem PySem.Spec L2
end DE
set_option Elab.async false
set_option linter.all false
set_option maxRecDepth 100000
set_option maxHeartbeats 8000000
namespace DE
open PySem PySem.Spec L2
def rho0 (n : Nat) (ds : List D) : Rho := ds.map (fun d => some (toDV d)) ++ List.replicate (n - ds.length) none
/-- what a def computes; n: its names -/
def fnD (n : Nat) (b : Ss) : Fn := fun ds S => match evSs b (rho0 n ds, S) with
  | some (.rt d, z) => some (d, z.2)
  | some (.nx, z) => some (.non, z.2)
  | _ => none
theorem zr_start {W : Wd} {ι : List Addr} {H : Hp} {S : Store} {n : Nat} {N : List Str} {ds : List D} {vs : List V} (hn : N.length = n) (hl : ds.length ≤ n) (r : Paired (Rep W ι H) ds vs) (st : StRep W ι H S) : ZR W ⟨ι, H, fun _ => none⟩ ι H (L2.start N vs) (rho0 n ds, S) := by
  have hlen : ds.length = vs.length := Paired.length r
  have get : ∀ (i : Nat) (dv : DV), (rho0 n ds)[i]? = some (some dv) → ∃ d, ds[i]? = some d ∧ dv = toDV d := fun i dv h => by
    unfold rho0 at h
    by_cases hi : i < ds.length
    · rw [List.getElem?_append_left (by simpa using hi), List.getElem?_map, List.getElem?_eq_getElem hi] at h
      simp only [Option.map_some, Option.some.injEq] at h
      exact ⟨ds[i], List.getElem?_eq_getElem hi, h.symm⟩
    · rw [List.getElem?_append_right (by simpa using hi), List.getElem?_replicate] at h
      split at h <;> cases h
  have getV : ∀ (i : Nat) (v : V), vs[i]? = some v → (L2.start N vs)[i]? = some (some v) := fun i v h => by
    unfold L2.start
    have hi : i < vs.length := (List.getElem?_eq_some_iff.mp h).1
    rw [List.getElem?_append_left (by simpa using hi), List.getElem?_map, h]
    rfl
  have pr : ∀ {ds : List D} {vs : List V}, Paired (Rep W ι H) ds vs → ∀ (i : Nat) (d : D), ds[i]? = some d → ∃ v, vs[i]? = some v ∧ Rep W ι H d v := by
    intro ds vs r
    induction r with
    | nil => intro i d h; simp at h
    | cons q t ih =>
      intro i d h
      cases i with
      | zero => simp at h; subst h; exact ⟨_, rfl, q⟩
      | succ i => exact ih i d (by simpa using h)
  refine ⟨st, List.prefix_refl _, fun a h nn => absurd h nn, fun b o e _ => .inl e, fun _ _ => rfl, (fun b o e => by cases e), ?_, fun i dv h => ?_, fun i j dv dv' a h1 o1 => ?_⟩
  · show (rho0 n ds).length = _
    unfold rho0 L2.start
    simp only [List.length_append, List.length_map, List.length_replicate]
    omega
  · obtain ⟨d, hd, rfl⟩ := get i dv h
    obtain ⟨v, hv, rv⟩ := pr r i d hd
    refine ⟨v, getV i v hv, ?_⟩
    cases d with
    | brw l =>
      unfold Rep at rv
      obtain ⟨l1, a, xs, e, ha, hn, rl⟩ := rv
      exact ⟨l1, a, xs, e, ha, ha, hn, hn, rl⟩
    | bor _ => unfold Rep at rv; exact rv.elim
    | _ => exact ⟨rfl, rv⟩
  · obtain ⟨d, hd, rfl⟩ := get i dv h1
    cases d <;> cases o1
theorem fn_ok {P : Program} {w : World} {K : PySem.W.Frag} {mg : Str → Option Value} {base : Heap} {W : Wd} {x qual : Str} {params : Arguments} {body : List Stmt} {scope : Scope} {f : Addr} {fd : FuncData} {N ps : List Str} {lv n : Nat} {b : Ss} (hK : W.K = K)
    (F : FunD K x qual params body scope [] [] f fd) (S : FnScope N ps scope) (hn : N.length = n) (hp : ps.length ≤ n) (hc : chkSs N scope b body = true) (nd : needSs ⟨P, w, mg, base, W, qual ++ ".<locals>."⟩ lv b) (hcd : CdOk ⟨P, w, mg, base, W, qual ++ ".<locals>."⟩ fd.code) : FnG P w K mg base (lv + 1) f fd ps (spD W ps.length (fnD n b)) := by
  refine fnG_of F S (fun vs H Q E h => ?_) fun cdv hcv A outer s H vs Q E hr hgd h => ⟨tss W ⟨h.choose, H, fun _ => none⟩ (evSs b), PSs.nox ?_, ?_⟩
  · obtain ⟨ι, S', ds, d, S2, hl, r, _⟩ := h
    rw [← hl, Paired.length r]
  · refine sSs (G := ⟨P, w, mg, base, W, qual ++ ".<locals>."⟩) (lv := lv) b hc nd ⟨rfl, rfl, hK.symm, rfl, rfl, rfl, hr, hgd, rfl, S.nd, rfl, rfl, rfl, hcv ▸ hcd, fun _ e => by cases e⟩ S.kind (fun _ => rfl) _
  · have h2 := h.choose_spec
    generalize h.choose = ι at h2
    obtain ⟨S', ds, d, S2, hl, r, st, e, k⟩ := h2
    have zr := zr_start (N := N) hn (by rw [hl]; exact hp) r st
    unfold fnD at e
    split at e
    · rename_i d1 z1 e2
      cases e
      exact ⟨ι, _, _, _, zr, e2, fun σ' ι' H' k1 zr1 v pl rp => k v ι' H' ⟨zr1.pre, zr1.new, zr1.keep⟩ zr1.st pl rp⟩
    · rename_i z1 e2
      cases e
      exact ⟨ι, _, _, _, zr, e2, fun σ' ι' H' k1 zr1 => k .non ι' H' ⟨zr1.pre, zr1.new, zr1.keep⟩ zr1.st rfl (by unfold Rep; rfl)⟩
    · cases e
end DE
set_option Elab.async false
set_option linter.all false
set_option maxRecDepth 100000
set_option maxHeartbeats 4000000
namespace DE
open PySem PySem.Spec L2
section
variable {W : Wd} {ι : List Addr} {H : Hp}
theorem rrep_str {s : List Nat} {v : V} (h : RRep W ι H (.str s) v) : v = .str (SX.S s) ∧ s.length ≤ sizeLine := by
  obtain ⟨_, h⟩ := h
  unfold Rep at h
  exact h
theorem rrep_bl {b : Bool} {v : V} (h : RRep W ι H (.bl b) v) : v = .bl b := by
  obtain ⟨_, h⟩ := h
  unfold Rep at h
  exact h
theorem rrep_lst {ds : List D} {v : V} (h : RRep W ι H (.lst ds) v) : ds.length ≤ sizeLine ∧ ∃ a xs, v = .ref a ∧ LsR W.K H a xs ∧ RepL W ι H ds xs := h
theorem rrep_tupH {ds : List D} {v : V} (h : RRep W ι H (.tup ds) v) : ds.length ≤ sizeLine ∧ ∃ a xs, v = .ref a ∧ H a = some (.tup xs) ∧ RepL W ι H ds xs := by
  obtain ⟨_, h⟩ := h
  unfold Rep at h
  exact h
theorem rrep_tup {ds : List D} {v : V} (h : RRep W ι H (.tup ds) v) : ds.length ≤ sizeLine ∧ ∃ a xs, v = .ref a ∧ SqT W.K H a xs ∧ RepL W ι H ds xs := by
  obtain ⟨l, a, xs, e, hx, r⟩ := rrep_tupH h
  exact ⟨l, a, xs, e, SqT.of hx, r⟩
theorem repL_strs0 : ∀ (ss : List (List Nat)), (∀ s ∈ ss, s.length ≤ sizeLine) → RepL W ι H (ss.map D.str) (ss.map fun s => V.str (SX.S s))
  | [], _ => .nil
  | s :: ss, h => .cons rfl (by unfold Rep; exact ⟨rfl, h s (List.mem_cons_self ..)⟩) (repL_strs0 ss fun x hx => h x (List.mem_cons_of_mem _ hx))
theorem rrep_ftp {ss : List (List Nat)} {v : V} (h : RRep W ι H (.ftp ss) v) : (ss.map D.str).length ≤ sizeLine ∧ ∃ a xs, v = .ref a ∧ SqT W.K H a xs ∧ RepL W ι H (ss.map D.str) xs := by
  obtain ⟨_, h⟩ := h
  unfold Rep at h
  obtain ⟨l1, l2, a, o, e, f, _⟩ := h
  exact ⟨by rw [List.length_map]; exact l1, a, _, e, .inl (.inr ⟨o, f⟩), repL_strs0 ss l2⟩
theorem rrep_itp {ns : List Int} {v : V} (h : RRep W ι H (.itp ns) v) : (ns.map D.int).length ≤ sizeLine ∧ ∃ a xs, v = .ref a ∧ SqT W.K H a xs ∧ RepL W ι H (ns.map D.int) xs := by
  obtain ⟨_, h⟩ := h
  unfold Rep at h
  obtain ⟨l1, a, o, e, f, _⟩ := h
  exact ⟨by rw [List.length_map]; exact l1, a, _, e, .inl (.inr ⟨o, f⟩), repL_ints0 ns⟩
theorem rep_int {i : Int} : Rep W ι H (.int i) (.int i) := by unfold Rep; rfl
theorem rep_bl' {b : Bool} : Rep W ι H (.bl b) (.bl b) := by unfold Rep; rfl
theorem rep_str {s : List Nat} (h : s.length ≤ sizeLine) : Rep W ι H (.str s) (.str (SX.S s)) := by unfold Rep; exact ⟨rfl, h⟩
theorem rep_tup {ds : List D} {a : Addr} {xs : List V} (h : ds.length ≤ sizeLine) (s : H a = some (.tup xs)) (r : RepL W ι H ds xs) : Rep W ι H (.tup ds) (.ref a) := by unfold Rep; exact ⟨h, a, xs, rfl, s, r⟩
end
def okN (n : Nat) : Bool := Nat.ble n 16777216
theorem okN_le {n : Nat} (h : okN n = true) : n ≤ sizeLine := by rw [sizeLine_eq]; exact Nat.le_of_ble_eq_true h
def rCatR (K : PySem.W.Frag) : R2 := fun x y H Q => ∃ l b xs zs, x = .ref l ∧ y = .ref b ∧ LsR K H l xs ∧ LsR K H b zs ∧ xs.length + zs.length ≤ sizeLine ∧ ∀ p, H p = none → Q (.ref p) (upd H p (.lst (xs ++ zs)))
theorem op_catR {X : Cx} : OpR X (binaryOp .Add) (rCatR X.K) := by
  intro pins s σ H x y v u Q I rx ry h
  obtain ⟨l, b, xs, zs, rfl, rfl, hH, hB, hz, q⟩ := h
  cases rx
  cases ry
  obtain ⟨z, its, n, r, hl, e⟩ := rdM I hH
  obtain ⟨z2, its2, n2, r2, hl2, e2⟩ := rdM I hB
  refine PySem.P.add_list e e2 ?_ (by rw [List.size_toArray, List.size_toArray]; omega)
  have ea : its.toArray ++ its2.toArray = (its ++ its2).toArray := by simp
  rw [ea]
  exact ⟨.ref _, _, I.lnew (t' := s.toks) (r.append r2) (by rw [List.length_append]; omega), rfl, q _ I.fresh⟩
def addD : D → D → Option D
  | .int a, .int b => some (.int (a + b))
  | .str a, .str b => if okN (a.length + b.length) then some (.str (a ++ b)) else none
  | .lst a, .lst b => if okN (a.length + b.length) then some (.lst (a ++ b)) else none
  | .tup a, .tup b => if okN (a.length + b.length) then some (.tup (a ++ b)) else none
  | _, _ => none
theorem addN {W : Wd} : BinN W .Add addD := fun X ad => by
  refine ⟨_, op_add.or (op_add_str.or (op_catR.or op_catA)), fun ι H x y v w d Q e rx ry k kk => ?_⟩
  unfold addD at e
  split at e
  · cases e
    exact .inl ⟨_, _, rrep_int rx, rrep_int ry, k _ H (fun _ _ e => e) rfl rep_int⟩
  · rename_i a b
    split at e
    · rename_i h
      cases e
      have hl := okN_le h
      obtain ⟨rfl, la⟩ := rrep_str rx
      obtain ⟨rfl, lb⟩ := rrep_str ry
      refine .inr (.inl ⟨_, _, rfl, rfl, by rw [SX.S_len, SX.S_len]; exact hl, ?_⟩)
      rw [SX.S_cat]
      exact k _ H (fun _ _ e => e) rfl (rep_str (by rw [List.length_append]; exact hl))
    · cases e
  · rename_i a b
    split at e
    · rename_i h
      cases e
      have hl := okN_le h
      obtain ⟨la, p, xs, rfl, hx, rl⟩ := rrep_lst rx
      obtain ⟨lb, p2, xs2, rfl, hx2, rl2⟩ := rrep_lst ry
      refine .inr (.inr (.inl ⟨_, _, xs, xs2, rfl, rfl, ad.k ▸ hx, ad.k ▸ hx2, by rw [← rl.length, ← rl2.length]; exact hl, fun q hq => ?_⟩))
      exact kk _ q _ rfl hq (by rw [List.length_append]; exact hl) (rl.append rl2)
    · cases e
  · rename_i a b
    split at e
    · rename_i h
      cases e
      have hl := okN_le h
      obtain ⟨la, p, xs, rfl, hx, rl⟩ := rrep_tupH rx
      obtain ⟨lb, p2, xs2, rfl, hx2, rl2⟩ := rrep_tupH ry
      have hl2 : (a ++ b).length ≤ sizeLine := by rw [List.length_append]; exact hl
      refine .inr (.inr (.inr ⟨_, _, xs, xs2, rfl, rfl, SqT.of hx, SqT.of hx2, by rw [← rl.length, ← rl2.length]; exact hl, fun e1 => ?_, fun _ e2 => ?_, fun _ _ q hq => ?_⟩))
      · have ea : a = [] := List.length_eq_zero_iff.mp (by rw [rl.length, e1]; rfl)
        subst ea
        exact k _ H (fun _ _ e => e) rfl (rep_tup hl2 hx2 rl2)
      · have eb : b = [] := List.length_eq_zero_iff.mp (by rw [rl2.length, e2]; rfl)
        subst eb
        rw [List.append_nil] at hl2 k
        exact k _ H (fun _ _ e => e) rfl (rep_tup hl2 hx rl)
      · have kp : Kp ι H ι (upd H q (.tup (xs ++ xs2))) := Kp.alloc hq
        exact k _ _ (fun b o e => by rw [upd_ne (fun z => by rw [z, hq] at e; cases e)]; exact e) rfl (rep_tup hl2 upd_same ((rl.append rl2).kp kp))
    · cases e
  · cases e
def subD : D → D → Option D
  | .int a, .int b => some (.int (a - b))
  | _, _ => none
def fdivD : D → D → Option D
  | .int a, .int b => if 0 < b ∧ b < 1073741824 then some (.int (a / b)) else none
  | _, _ => none
theorem fdivN {W : Wd} : BinN W .FloorDiv fdivD := fun X ad => by
  refine ⟨_, op_fdiv, fun ι H x y v w d Q e rx ry k kk => ?_⟩
  unfold fdivD at e
  split at e
  · split at e
    · rename_i h
      cases e
      exact ⟨_, _, rrep_int rx, rrep_int ry, h, k _ H (fun _ _ e => e) rfl rep_int⟩
    · cases e
  · cases e
def modD : D → D → Option D
  | .int a, .int b => if 0 < b then some (.int (a % b)) else none
  | _, _ => none
theorem modN {W : Wd} : BinN W .Mod modD := fun X ad => by
  refine ⟨_, op_mod, fun ι H x y v w d Q e rx ry k kk => ?_⟩
  unfold modD at e
  split at e
  · split at e
    · rename_i h
      cases e
      exact ⟨_, _, rrep_int rx, rrep_int ry, h, k _ H (fun _ _ e => e) rfl rep_int⟩
    · cases e
  · cases e
def powD : D → D → Option D
  | .int a, .int b => if 0 ≤ b ∧ b ≤ 1000000 ∧ a.natAbs < 18446744073709551616 then some (.int (a ^ b.toNat)) else none
  | _, _ => none
theorem powN {W : Wd} : BinN W .Pow powD := fun X ad => by
  refine ⟨_, op_pow, fun ι H x y v w d Q e rx ry k kk => ?_⟩
  unfold powD at e
  split at e
  · split at e
    · rename_i h
      cases e
      have e2 : (2 : Nat) ^ 64 = 18446744073709551616 := by decide
      exact ⟨_, _, rrep_int rx, rrep_int ry, ⟨h.1, h.2.1, by rw [e2]; exact h.2.2⟩, k _ H (fun _ _ e => e) rfl rep_int⟩
    · cases e
  · cases e
end DE
set_option Elab.async false
set_option linter.all false
set_option maxRecDepth 100000
set_option maxHeartbeats 4000000
namespace DE
open PySem PySem.Spec L2
def rRepR (K : PySem.W.Frag) : R2 := fun x y H Q => ∃ l k xs, x = .ref l ∧ y = .int k ∧ LsR K H l xs ∧ -(2 ^ 63) ≤ k ∧ k < 2 ^ 63 ∧ xs.length * k.toNat ≤ sizeLine ∧
  ∀ p, H p = none → Q (.ref p) (upd H p (.lst (List.replicate k.toNat xs).flatten))
theorem op_repR {X : Cx} : OpR X (binaryOp .Mult) (rRepR X.K) := by
  intro pins s σ H x y v u Q I rx ry h
  obtain ⟨l, k, xs, rfl, rfl, hH, h1, h2, hz, q⟩ := h
  cases rx
  obtain ⟨t, rfl⟩ := ry
  obtain ⟨z, its, n, r, hl, e⟩ := rdM I hH
  have hlen : its.toArray.size * k.toNat ≤ sizeLine := by rw [List.size_toArray, ← hl]; exact hz
  have hcap : ¬ its.toArray.size * k.toNat > (2 ^ 63 - 1) / 8 := by
    have : (sizeLine : Nat) ≤ (2 ^ 63 - 1) / 8 := by decide
    omega
  have hfit : ¬ (!Builtin.List.listFitsIndex k) = true := by rw [fitsIndex_both h1 h2]; exact Bool.false_ne_true
  have hlong : ¬ Builtin.List.listTooLong (its.toArray.size * k.toNat) = true := by rw [notLongL hlen]; exact Bool.false_ne_true
  have hnew : List.foldl (fun x1 x2 => x1 ++ x2) #[] (List.replicate (if its.toArray.isEmpty = true then 0 else k.toNat) its.toArray) = (List.replicate k.toNat its).flatten.toArray := by
    have f0 := fun m => foldl_rep its m []
    simp only [List.nil_append] at f0
    rw [f0]
    cases its with
    | nil => simp
    | cons a r' => rw [if_neg (by simp)]
  refine wpAny_binaryOp_repeat_ref (T := "list") (U := "int") (by decide) ⟨_, e, rfl⟩ (fun s' => typeIs_int s' k t) noFill_list_mul F.fills_int_mul F.slot_int_rmul repeat_list F.slot_int_index.lookup
    (call_meets F.slot_int_rmul (typeIs_int s k t) F.entry_int_rmul (F.args_int_rmul_2 _ _) (int___rmul___int_list k t l its.toArray n)
      ⟨e, rfl, ⟨_, e, rfl⟩, call_meets F.slot_list_mul ⟨_, e, rfl⟩ F.entry_list_mul (F.args_list_mul_2 _ _) (AutoListH.list___mul___list_int_3 l its.toArray n k t hfit hcap hlong) ⟨e, ?_⟩⟩)
  rw [hnew]
  exact ⟨.ref _, _, I.lnew (t' := s.toks) (r.rep k.toNat) (by rw [PyProof.Rows.lm_len_rep_flat, Nat.mul_comm]; exact hz), rfl, q _ I.fresh⟩
def rMulC : R2 := fun x y H Q => ∃ (c : Nat) (n : Int), x = .str (SX.S [c]) ∧ y = .int n ∧ -(2 ^ 63) ≤ n ∧ n ≤ 16777216 ∧ Q (.str (SX.S (List.replicate n.toNat c))) H
theorem op_mulC {X : Cx} : OpR X (binaryOp .Mult) rMulC := by
  intro pins s σ H x y v u Q I rx ry h
  obtain ⟨c, n, rfl, rfl, h1, h2, q⟩ := h
  obtain ⟨t, rfl⟩ := rx
  obtain ⟨t', rfl⟩ := ry
  have hx : (SX.S [c]).length = 1 := by rw [SX.S_len]; rfl
  refine SB.mul ⟨by simp; omega, fun a b => ?_, fun a b => ?_⟩ fun t' k => ⟨.str _, H, I.tok _, ⟨_, rfl⟩, ?_⟩
  · rw [hx]
    have : (2 ^ 63 - 1) / n ≥ 1 := by
      refine (Int.le_ediv_iff_mul_le (by omega)).mpr ?_
      omega
    omega
  · rw [hx, Nat.one_mul]
    unfold Builtin.Str.tooLong
    simp [sizeLine_eq]
    omega
  · have e : Txt.mul (SX.S [c]) n = SX.S (List.replicate n.toNat c) := TL.ext_tl (PyProof.Rows.mul_one_list c n)
    rw [e]
    exact q
def mulD : D → D → Option D
  | .int a, .int b => if (-18446744073709551616 < a ∧ a < 18446744073709551616) ∨ (-18446744073709551616 < b ∧ b < 18446744073709551616) then some (.int (a * b)) else none
  | .str [c], .int n => if -9223372036854775808 ≤ n ∧ n ≤ 16777216 then some (.str (List.replicate n.toNat c)) else none
  | .lst ds, .int n => if -9223372036854775808 ≤ n ∧ n < 9223372036854775808 ∧ okN (ds.length * n.toNat) = true then some (.lst (List.replicate n.toNat ds).flatten) else none
  | _, _ => none
theorem RepL.reps {W : Wd} {ι : List Addr} {H : Hp} {ds : List D} {xs : List V} (h : RepL W ι H ds xs) : ∀ n : Nat, RepL W ι H (List.replicate n ds).flatten (List.replicate n xs).flatten
  | 0 => by simp; exact .nil
  | n + 1 => by
    rw [List.replicate_succ, List.replicate_succ, List.flatten_cons, List.flatten_cons]
    exact h.append (h.reps n)
theorem mulN {W : Wd} : BinN W .Mult mulD := fun X ad => by
  refine ⟨_, op_mul.or (op_mulC.or op_repR), fun ι H x y v w d Q e rx ry k kk => ?_⟩
  unfold mulD at e
  split at e
  · split at e
    · rename_i h
      cases e
      exact .inl ⟨_, _, rrep_int rx, rrep_int ry, h.imp (fun h => ⟨by simpa using h.1, by simpa using h.2⟩) fun h => ⟨by simpa using h.1, by simpa using h.2⟩, k _ H (fun _ _ e => e) rfl rep_int⟩
    · cases e
  · split at e
    · rename_i h
      cases e
      refine .inr (.inl ⟨_, _, (rrep_str rx).1, rrep_int ry, by have := h.1; omega, h.2, k _ H (fun _ _ e => e) rfl (rep_str ?_)⟩)
      rw [List.length_replicate, sizeLine_eq]
      omega
    · cases e
  · rename_i ds n
    split at e
    · rename_i h
      cases e
      obtain ⟨la, p, xs, rfl, hx, rl⟩ := rrep_lst rx
      have hz : xs.length * n.toNat ≤ sizeLine := by rw [← rl.length]; exact okN_le h.2.2
      refine .inr (.inr ⟨_, _, xs, rfl, rrep_int ry, ad.k ▸ hx, by have := h.1; omega, by have := h.2.1; omega, hz, fun q hq => ?_⟩)
      exact kk _ q _ rfl hq (by rw [PyProof.Rows.lm_len_rep_flat, Nat.mul_comm]; exact okN_le h.2.2) (rl.reps _)
    · cases e
  · cases e
theorem ints_dp {K : PySem.W.Frag} {H : Hp} : ∀ ns : List Int, DpAll K H (ns.map V.int) (ns.map PyData.int)
  | [] => .nil
  | n :: ns => .cons (.int n) (ints_dp ns)
mutual
theorem rep_dp {W : Wd} {ι : List Addr} {H : Hp} : ∀ (d : D) {v : V}, Rep W ι H d v → isD d = true → Dp W.K H v (toPy d)
  | .non, v, r, _ => by unfold Rep at r; subst r; exact .non
  | .bl b, v, r, _ => by unfold Rep at r; subst r; exact .bl b
  | .int i, v, r, _ => by unfold Rep at r; subst r; exact .int i
  | .str s, v, r, _ => by unfold Rep at r; rw [r.1]; exact .str _
  | .lst ds, v, r, h => by
    unfold Rep at r
    obtain ⟨_, a, xs, rfl, f, rl⟩ := r
    unfold isD at h
    exact .lst f.sq (repL_dp ds rl h)
  | .tup ds, v, r, h => by
    unfold Rep at r
    obtain ⟨_, a, xs, rfl, f, rl⟩ := r
    unfold isD at h
    exact .tup (SqT.of f) (repL_dp ds rl h)
  | .ins _ _, _, _, h => by cases h
  | .han _, _, _, h => by cases h
  | .bor _, _, _, h => by cases h
  | .brw _, _, _, h => by cases h
  | .fn _, _, _, h => by cases h
  | .ftp _, _, _, h => by cases h
  | .dic _, _, _, h => by cases h
  | .exc _ _, _, _, h => by cases h
  | .clo _ _, _, _, h => by cases h
  | .clc _ _ _, _, _, h => by cases h
  | .itp ns, v, r, _ => by
    unfold Rep at r
    obtain ⟨_, a, o, rfl, f, _⟩ := r
    exact .tup (.inl (.inr ⟨o, f⟩)) (ints_dp ns)
theorem repL_dp {W : Wd} {ι : List Addr} {H : Hp} : ∀ (ds : List D) {vs : List V}, RepL W ι H ds vs → isDL ds = true → DpAll W.K H vs (toPyL ds)
  | [], _, r, _ => by unfold RepL at r; subst r; exact .nil
  | d :: ds, _, r, h => by
    unfold RepL at r
    obtain ⟨v, r', rfl, p, r1, r2⟩ := r
    unfold isDL at h
    rw [Bool.and_eq_true] at h
    exact .cons (rep_dp d r1 h.1) (repL_dp ds r2 h.2)
end
theorem rrep_dp {W : Wd} {ι : List Addr} {H : Hp} {d : D} {v : V} (r : RRep W ι H d v) (h : isD d = true) : Dp W.K H v (toPy d) := by
  cases d with
  | lst ds =>
    obtain ⟨_, a, xs, rfl, f, rl⟩ := rrep_lst r
    unfold isD at h
    exact .lst f.sq (repL_dp ds rl h)
  | brw _ => cases h
  | bor _ => cases h
  | ins _ _ => cases h
  | han _ => cases h
  | fn _ => cases h
  | ftp _ => cases h
  | dic _ => cases h
  | _ => exact rep_dp _ r.2 h
/-- ints beside data -/
def eqIL : List Int → List D → Bool
  | [], ys => (match ys with | [] => true | _ => false)
  | i :: l, ys => (match ys with | y :: r => (match y with | .bl b => i == (if b then 1 else 0) | .int j => decide (i = j) | _ => false) && eqIL l r | _ => false)
mutual
/-- == -/
def eqB : D → D → Bool
  | .non, y => (match y with | .non => true | _ => false)
  | .bl a, y => (match y with | .bl b => a == b | .int j => (if a then 1 else 0) == j | _ => false)
  | .int i, y => (match y with | .bl b => i == (if b then 1 else 0) | .int j => decide (i = j) | _ => false)
  | .str a, y => (match y with | .str b => decide (a = b) | _ => false)
  | .lst xs, y => (match y with | .lst ys => eqBL xs ys | _ => false)
  | .tup xs, y => (match y with | .tup ys => eqBL xs ys | .itp b => eqLI xs b | _ => false)
  | .itp a, y => (match y with | .tup ys => eqIL a ys | .itp b => decide (a = b) | _ => false)
  | _, _ => false
def eqBL : List D → List D → Bool
  | [], ys => (match ys with | [] => true | _ => false)
  | x :: xs, ys => (match ys with | y :: r => eqB x y && eqBL xs r | _ => false)
def eqLI : List D → List Int → Bool
  | [], ys => (match ys with | [] => true | _ => false)
  | x :: xs, ys => (match ys with | y :: r => eqB x (.int y) && eqLI xs r | _ => false)
end
theorem eqII_py : ∀ a b : List Int, PyData.eqvAll (a.map PyData.int) (b.map PyData.int) = decide (a = b)
  | [], [] => rfl
  | [], _ :: _ => rfl
  | _ :: _, [] => rfl
  | x :: a, y :: b => by
    show (decide (x = y) && PyData.eqvAll (a.map PyData.int) (b.map PyData.int)) = decide (x :: a = y :: b)
    rw [eqII_py a b]
    simp
theorem eqIL_py : ∀ (a : List Int) (ys : List D), isDL ys = true → PyData.eqvAll (a.map PyData.int) (toPyL ys) = eqIL a ys
  | [], ys, _ => by cases ys <;> rfl
  | x :: a, ys, hy => by
    cases ys with
    | nil => rfl
    | cons y r =>
      unfold isDL at hy
      rw [Bool.and_eq_true] at hy
      show (PyData.eqv (.int x) (toPy y) && PyData.eqvAll (a.map PyData.int) (toPyL r)) = _
      rw [eqIL_py a r hy.2]
      cases y <;> first | rfl | cases hy.1
mutual
theorem eqB_py : ∀ x y : D, isD x = true → isD y = true → PyData.eqv (toPy x) (toPy y) = eqB x y
  | .non, y, _, hy => by cases y <;> first | rfl | cases hy
  | .bl a, y, _, hy => by cases y <;> first | rfl | cases hy
  | .int a, y, _, hy => by cases y <;> first | rfl | cases hy
  | .str a, y, _, hy => by
    cases y with
    | str b => show (SX.S a == SX.S b) = decide (a = b); exact SX.S_beq_eq
    | non => rfl
    | bl _ => rfl
    | int _ => rfl
    | lst _ => rfl
    | tup _ => rfl
    | itp _ => rfl
    | _ => cases hy
  | .lst xs, y, hx, hy => by
    cases y with
    | lst ys => exact eqBL_py xs ys (by unfold isD at hx; exact hx) (by unfold isD at hy; exact hy)
    | non => rfl
    | bl _ => rfl
    | int _ => rfl
    | str _ => rfl
    | tup _ => rfl
    | itp _ => rfl
    | _ => cases hy
  | .itp a, y, hx, hy => by
    cases y with
    | tup ys => exact eqIL_py a ys (by unfold isD at hy; exact hy)
    | itp b => exact eqII_py a b
    | non => rfl
    | bl _ => rfl
    | int _ => rfl
    | str _ => rfl
    | lst _ => rfl
    | _ => cases hy
  | .dic _, _, hx, _ => by cases hx
  | .exc _ _, _, hx, _ => by cases hx
  | .clo _ _, _, hx, _ => by cases hx
  | .clc _ _ _, _, hx, _ => by cases hx
  | .tup xs, y, hx, hy => by
    cases y with
    | itp b => exact eqLI_py xs b (by unfold isD at hx; exact hx)
    | tup ys => exact eqBL_py xs ys (by unfold isD at hx; exact hx) (by unfold isD at hy; exact hy)
    | non => rfl
    | bl _ => rfl
    | int _ => rfl
    | str _ => rfl
    | lst _ => rfl
    | _ => cases hy
  | .ins _ _, _, hx, _ => by cases hx
  | .han _, _, hx, _ => by cases hx
  | .bor _, _, hx, _ => by cases hx
  | .brw _, _, hx, _ => by cases hx
  | .fn _, _, hx, _ => by cases hx
  | .ftp _, _, hx, _ => by cases hx
theorem eqBL_py : ∀ xs ys : List D, isDL xs = true → isDL ys = true → PyData.eqvAll (toPyL xs) (toPyL ys) = eqBL xs ys
  | [], ys, _, hy => by cases ys <;> rfl
  | x :: xs, ys, hx, hy => by
    cases ys with
    | nil => rfl
    | cons y r =>
      unfold isDL at hx hy
      rw [Bool.and_eq_true] at hx hy
      show (PyData.eqv (toPy x) (toPy y) && PyData.eqvAll (toPyL xs) (toPyL r)) = (eqB x y && eqBL xs r)
      rw [eqB_py x y hx.1 hy.1, eqBL_py xs r hx.2 hy.2]
theorem eqLI_py : ∀ (xs : List D) (b : List Int), isDL xs = true → PyData.eqvAll (toPyL xs) (b.map PyData.int) = eqLI xs b
  | [], b, _ => by cases b <;> rfl
  | x :: xs, b, hx => by
    cases b with
    | nil => rfl
    | cons y r =>
      unfold isDL at hx
      rw [Bool.and_eq_true] at hx
      show (PyData.eqv (toPy x) (toPy (.int y)) && PyData.eqvAll (toPyL xs) (r.map PyData.int)) = (eqB x (.int y) && eqLI xs r)
      rw [eqB_py x (.int y) hx.1 rfl, eqLI_py xs r hx.2]
end
theorem plainI_py : ∀ ns : List Int, PyData.plainAll (ns.map PyData.int) = true
  | [] => rfl
  | _ :: ns => plainI_py ns
theorem depthI_py : ∀ ns : List Int, PyData.depthAll (ns.map PyData.int) = 0
  | [] => rfl
  | n :: ns => by
    show max (PyData.int n).depth (PyData.depthAll (ns.map PyData.int)) = 0
    rw [depthI_py ns]; rfl
mutual
theorem plain_py : ∀ d : D, (toPy d).plain = true
  | .non => rfl
  | .bl _ => rfl
  | .int _ => rfl
  | .str _ => rfl
  | .lst ds => by unfold toPy; exact plainL_py ds
  | .tup ds => by unfold toPy; exact plainL_py ds
  | .ins _ _ => rfl
  | .han _ => rfl
  | .bor _ => rfl
  | .brw _ => rfl
  | .fn _ => rfl
  | .ftp _ => rfl
  | .dic _ => rfl
  | .exc _ _ => rfl
  | .clo _ _ => rfl
  | .clc _ _ _ => rfl
  | .itp ns => plainI_py ns
theorem plainL_py : ∀ ds : List D, PyData.plainAll (toPyL ds) = true
  | [] => rfl
  | d :: ds => by
    show ((toPy d).plain && PyData.plainAll (toPyL ds)) = true
    rw [plain_py d, plainL_py ds]; rfl
end
theorem dptL {n : Nat} (ih : ∀ d, dpt n d = true → isD d = true ∧ (toPy d).depth ≤ n) : ∀ ds : List D, ds.all (dpt n) = true → isDL ds = true ∧ PyData.depthAll (toPyL ds) ≤ n
  | [], _ => ⟨rfl, Nat.zero_le _⟩
  | d :: ds, h => by
    rw [List.all_cons, Bool.and_eq_true] at h
    obtain ⟨a1, a2⟩ := ih d h.1
    obtain ⟨b1, b2⟩ := dptL ih ds h.2
    refine ⟨by unfold isDL; rw [a1, b1]; rfl, ?_⟩
    show max (toPy d).depth (PyData.depthAll (toPyL ds)) ≤ n
    omega
theorem dpt_ok : ∀ (n : Nat) (d : D), dpt n d = true → isD d = true ∧ (toPy d).depth ≤ n
  | n, .non, _ => ⟨rfl, Nat.zero_le _⟩
  | n, .bl _, _ => ⟨rfl, Nat.zero_le _⟩
  | n, .int _, _ => ⟨rfl, Nat.zero_le _⟩
  | n, .str _, _ => ⟨rfl, Nat.zero_le _⟩
  | 0, .lst _, h => by cases h
  | 0, .tup _, h => by cases h
  | n + 1, .lst ds, h => by
    obtain ⟨a, b⟩ := dptL (dpt_ok n) ds h
    refine ⟨by unfold isD; exact a, ?_⟩
    unfold toPy
    show PyData.depthAll (toPyL ds) + 1 ≤ n + 1
    omega
  | n + 1, .tup ds, h => by
    obtain ⟨a, b⟩ := dptL (dpt_ok n) ds h
    refine ⟨by unfold isD; exact a, ?_⟩
    unfold toPy
    show PyData.depthAll (toPyL ds) + 1 ≤ n + 1
    omega
  | 0, .ins _ _, h => by cases h
  | 0, .han _, h => by cases h
  | 0, .bor _, h => by cases h
  | 0, .brw _, h => by cases h
  | 0, .fn _, h => by cases h
  | 0, .ftp _, h => by cases h
  | 0, .dic _, h => by cases h
  | 0, .exc _ _, h => by cases h
  | 0, .clo _ _, h => by cases h
  | 0, .clc _ _ _, h => by cases h
  | 0, .itp _, h => by cases h
  | _ + 1, .dic _, h => by cases h
  | _ + 1, .exc _ _, h => by cases h
  | _ + 1, .clo _ _, h => by cases h
  | _ + 1, .clc _ _ _, h => by cases h
  | n + 1, .itp ns, _ => by
    refine ⟨rfl, ?_⟩
    show PyData.depthAll (ns.map PyData.int) + 1 ≤ n + 1
    rw [depthI_py]; omega
  | _ + 1, .ins _ _, h => by cases h
  | _ + 1, .han _, h => by cases h
  | _ + 1, .bor _, h => by cases h
  | _ + 1, .brw _, h => by cases h
  | _ + 1, .fn _, h => by cases h
  | _ + 1, .ftp _, h => by cases h
def eqD (x y : D) : Option D := if shp x && shp y then some (.bl (eqB x y)) else none
theorem eqD_of {x y d : D} (e : eqD x y = some d) : shp x = true ∧ shp y = true ∧ d = .bl (PyData.eqv (toPy x) (toPy y)) := by
  unfold eqD at e
  split at e
  · rename_i h
    rw [Bool.and_eq_true] at h
    cases e
    exact ⟨h.1, h.2, by rw [eqB_py x y (dpt_ok _ _ h.1).1 (dpt_ok _ _ h.2).1]⟩
  · cases e
theorem shp_of {W : Wd} {ι : List Addr} {H : Hp} {d : D} {v : V} (r : RRep W ι H d v) (h : shp d = true) : Dp W.K H v (toPy d) ∧ (toPy d).depth ≤ 32 := ⟨rrep_dp r (dpt_ok _ _ h).1, (dpt_ok _ _ h).2⟩
def rEqP (K : PySem.W.Frag) (neg : Bool) : R2 := fun x y H Q => ∃ d e, Dp K H x d ∧ Dp K H y e ∧ d.plain = true ∧ e.plain = true ∧ d.depth ≤ 32 ∧ Q (.bl (neg ^^ PyData.eqv d e)) H
theorem op_neP {X : Cx} (hu : X.A.units + 65 < cLine) : OpR X (compareOp .NotEq) (rEqP X.K true) := by
  intro pins s σ H x y v u Q I rx ry h
  obtain ⟨d, e, hd, he, sd, se, hm, q⟩ := h
  obtain ⟨as, r1⟩ := Dp.reads I d x v hd rx
  obtain ⟨bs, r2⟩ := Dp.reads I e y u he ry
  exact SeqAt.ne_plain r1 r2 sd se (by omega) ⟨.bl _, H, I, rfl, by simpa using q⟩
def negB : D → Option D
  | .bl b => some (.bl (!b))
  | _ => none
def neD (x y : D) : Option D := (eqD x y).bind negB
theorem neN {W : Wd} : CmpN W .NotEq neD := fun X ad => by
  refine ⟨_, op_neP ad.un, fun ι H x y v w d Q e rx ry k => ?_⟩
  unfold neD at e
  cases e1 : eqD x y with
  | none => rw [e1] at e; cases e
  | some d1 =>
    rw [e1, Option.bind_some] at e
    obtain ⟨h1, h2, rfl⟩ := eqD_of e1
    cases e
    obtain ⟨a1, a2⟩ := shp_of rx h1
    obtain ⟨b1, b2⟩ := shp_of ry h2
    exact ⟨_, _, ad.k ▸ a1, ad.k ▸ b1, plain_py _, plain_py _, a2, by simpa using k _ H (fun _ _ e => e) rfl rep_bl'⟩
def ltD : D → D → Option D
  | .int a, .int b => some (.bl (decide (a < b)))
  | .str a, .str b => some (.bl (decide (a < b)))
  | _, _ => none
theorem ltN {W : Wd} : CmpN W .Lt ltD := fun X ad => by
  refine ⟨_, op_lt.or op_lt_str, fun ι H x y v w d Q e rx ry k => ?_⟩
  unfold ltD at e
  split at e
  · cases e; exact .inl ⟨_, _, rrep_int rx, rrep_int ry, k _ H (fun _ _ e => e) rfl rep_bl'⟩
  · cases e; exact .inr ⟨_, _, (rrep_str rx).1, (rrep_str ry).1, k _ H (fun _ _ e => e) rfl rep_bl'⟩
  · cases e
def leD : D → D → Option D
  | .int a, .int b => some (.bl (decide (a ≤ b)))
  | _, _ => none
def gtD : D → D → Option D
  | .int a, .int b => some (.bl (decide (b < a)))
  | _, _ => none
theorem gtN {W : Wd} : CmpN W .Gt gtD := fun X ad => by
  refine ⟨_, op_gt, fun ι H x y v w d Q e rx ry k => ?_⟩
  unfold gtD at e
  split at e
  · cases e; exact ⟨_, _, rrep_int rx, rrep_int ry, k _ H (fun _ _ e => e) rfl rep_bl'⟩
  · cases e
def geD : D → D → Option D
  | .int a, .int b => some (.bl (decide (b ≤ a)))
  | _, _ => none
theorem geN {W : Wd} : CmpN W .GtE geD := fun X ad => by
  refine ⟨_, op_ge, fun ι H x y v w d Q e rx ry k => ?_⟩
  unfold geD at e
  split at e
  · cases e; exact ⟨_, _, rrep_int rx, rrep_int ry, k _ H (fun _ _ e => e) rfl rep_bl'⟩
  · cases e
def isNonD : D → Bool
  | .non => true
  | _ => false
def isD2 : D → D → Option D
  | x, .non => some (.bl (isNonD x))
  | _, _ => none
def isnotD (x y : D) : Option D := (isD2 x y).bind negB
end DE
set_option Elab.async false
set_option linter.all false
set_option maxRecDepth 100000
set_option maxHeartbeats 4000000
namespace DE
open PySem PySem.Spec L2
theorem countP_toPyL {p : PyData → Bool} : ∀ ds : List D, (toPyL ds).countP p = ds.countP fun z => p (toPy z)
  | [] => rfl
  | d :: ds => by
    show (toPy d :: toPyL ds).countP p = _
    rw [List.countP_cons, List.countP_cons, countP_toPyL ds]
theorem mem_isD {ds : List D} (h : isDL ds = true) : ∀ z ∈ ds, isD z = true := by
  induction ds with
  | nil => intro z hz; cases hz
  | cons d ds ih =>
    unfold isDL at h
    rw [Bool.and_eq_true] at h
    intro z hz
    rcases List.mem_cons.mp hz with rfl | hz
    · exact h.1
    · exact ih h.2 z hz
theorem ixN1 {W : Wd} : IxN W ixD := fun X ad => by
  refine ⟨_, ix_seq, fun ι H x y v w d Q e rx ry k kk => ?_⟩
  unfold ixD at e
  split at e
  · rename_i ds i
    cases e1 : ixN ds.length i with
    | none => rw [e1] at e; cases e
    | some j =>
      rw [e1, Option.bind_some] at e
      obtain ⟨la, p, xs, rfl, hx, rl⟩ := rrep_lst rx
      obtain ⟨u, hu, ru, pu⟩ := rl.get e
      exact .inl ⟨p, xs, i, u, rfl, rrep_int ry, ad.k ▸ hx.sq, by unfold atI; rw [← rl.length, e1]; exact hu, k u H (fun _ _ e => e) pu ru⟩
  · rename_i ds i
    cases e1 : ixN ds.length i with
    | none => rw [e1] at e; cases e
    | some j =>
      rw [e1, Option.bind_some] at e
      obtain ⟨la, p, xs, rfl, hx, rl⟩ := rrep_tup rx
      obtain ⟨u, hu, ru, pu⟩ := rl.get e
      exact .inr (.inl ⟨p, xs, i, u, rfl, rrep_int ry, ad.k ▸ hx, by unfold atI; rw [← rl.length, e1]; exact hu, k u H (fun _ _ e => e) pu ru⟩)
  · rename_i s i
    cases e1 : ixN s.length i with
    | none => rw [e1] at e; cases e
    | some j =>
      rw [e1, Option.bind_some] at e
      cases e2 : s[j]? with
      | none => rw [e2] at e; cases e
      | some c =>
        rw [e2] at e
        cases e
        refine .inr (.inr ⟨SX.S s, i, c, (rrep_str rx).1, rrep_int ry, by rw [SX.S_len]; exact (rrep_str rx).2, ?_, k _ H (fun _ _ e => e) rfl (rep_str (s := [c]) (by rw [sizeLine_eq]; simp))⟩)
        show atI s i = some c
        unfold atI
        rw [e1]
        exact e2
  · cases e
theorem RepL.cut {W : Wd} {ι : List Addr} {H : Hp} {ds : List D} {xs : List V} (h : RepL W ι H ds xs) (lo hi : Option Int) : RepL W ι H (cutL ds lo hi) (cutV xs lo hi) := by
  unfold cutL cutV
  rw [h.length]
  exact (h.drop _).take _
theorem cutL_len {α : Type} (xs : List α) (lo hi : Option Int) : (cutL xs lo hi).length ≤ xs.length := by
  unfold cutL
  rw [List.length_take, List.length_drop]
  omega
theorem cut_all {α : Type} {xs : List α} {lo hi : Option Int} (h : HT.sIx xs.length 0 lo = 0 ∧ HT.sIx xs.length xs.length hi = xs.length) : cutL xs lo hi = xs := by
  unfold cutL
  rw [h.1, h.2]
  simp
theorem slN1 {W : Wd} : SlN W slD := fun X ad => by
  refine ⟨_, sl_list.or (sl_tupA.or C8.sl_txt), fun ι H x v lo hi d Q e rx k kk => ?_⟩
  unfold slD at e
  split at e
  · rename_i ds
    cases e
    obtain ⟨la, p, xs, rfl, hx, rl⟩ := rrep_lst rx
    exact .inl ⟨p, xs, rfl, ad.k ▸ hx.sq, fun q hq => kk _ q _ rfl hq (Nat.le_trans (cutL_len _ _ _) la) (rl.cut lo hi)⟩
  · rename_i ds
    cases e
    obtain ⟨la, p, xs, rfl, hx, rl⟩ := rrep_tupH rx
    refine .inr (.inl ⟨p, xs, rfl, SqT.of hx, fun h => ?_, fun _ q hq => ?_⟩)
    · rw [← rl.length] at h
      rw [cut_all h] at k
      exact k _ H (fun _ _ e => e) rfl (rep_tup la hx rl)
    · exact k _ _ (fun b o e => by rw [upd_ne (fun z => by rw [z, hq] at e; cases e)]; exact e) rfl (rep_tup (Nat.le_trans (cutL_len _ _ _) la) upd_same ((rl.cut lo hi).kp (Kp.alloc hq)))
  · rename_i s
    split at e
    · rename_i i
      split at e
      · rename_i h
        cases e
        refine .inr (.inr ⟨SX.S s, (rrep_str rx).1, by rw [SX.S_len]; exact (rrep_str rx).2, ?_⟩)
        rw [SX.slice_from h]
        refine k _ H (fun _ _ e => e) rfl (rep_str ?_)
        have := (rrep_str rx).2
        rw [List.length_drop]
        omega
      · cases e
    · cases e
  · rename_i s i
    split at e
    · rename_i h
      cases e
      refine .inr (.inr ⟨SX.S s, (rrep_str rx).1, by rw [SX.S_len]; exact (rrep_str rx).2, ?_⟩)
      rw [SX.slice_to h]
      refine k _ H (fun _ _ e => e) rfl (rep_str ?_)
      have := (rrep_str rx).2
      rw [List.length_take]
      omega
    · cases e
  · cases e
end DE
set_option Elab.async false
set_option linter.all false
set_option maxRecDepth 100000
set_option maxHeartbeats 4000000
namespace DE
open PySem PySem.Spec L2
section
variable {W : Wd} {ι : List Addr} {H : Hp}
theorem bcOk1 {r : List V → Hp → VK → Prop} {f : List D → Option D} (h : ∀ ι H x v d Q, f [x] = some d → RRep W ι H x v → (∀ u H', (∀ b o, H b = some o → H' b = some o) → d.plain = true → Rep W ι H' d u → Q u H') → r [v] H Q)
    (h1 : ∀ l, l.length ≠ 1 → f l = none) : BcOk W r f := by
  intro ι H ds vs d Q e rl k
  cases rl with
  | nil => rw [h1 [] (by simp)] at e; cases e
  | cons r1 rt =>
    cases rt with
    | nil => exact h ι H _ _ d Q e r1 k
    | cons r2 rt => rw [h1 _ (by simp)] at e; cases e
theorem bcOk2 {r : List V → Hp → VK → Prop} {f : List D → Option D} (h : ∀ ι H x y v w d Q, f [x, y] = some d → RRep W ι H x v → RRep W ι H y w → (∀ u H', (∀ b o, H b = some o → H' b = some o) → d.plain = true → Rep W ι H' d u → Q u H') → r [v, w] H Q)
    (h1 : ∀ l, l.length ≠ 2 → f l = none) : BcOk W r f := by
  intro ι H ds vs d Q e rl k
  cases rl with
  | nil => rw [h1 [] (by simp)] at e; cases e
  | cons r1 rt =>
    cases rt with
    | nil => rw [h1 _ (by simp)] at e; cases e
    | cons r2 rt =>
      cases rt with
      | nil => exact h ι H _ _ _ _ d Q e r1 r2 k
      | cons _ _ => rw [h1 _ (by simp)] at e; cases e
end
theorem f1_ne {g : D → Option D} (l : List D) (h : l.length ≠ 1) : f1 g l = none := by
  unfold f1
  split
  · exact absurd rfl h
  · rfl
theorem f2_ne {g : D → D → Option D} (l : List D) (h : l.length ≠ 2) : f2 g l = none := by
  unfold f2
  split
  · exact absurd rfl h
  · rfl
def lenD : D → Option D
  | .lst ds => some (.int ds.length)
  | .tup ds => some (.int ds.length)
  | .str s => some (.int s.length)
  | .ftp ss => some (.int ss.length)
  | .itp ns => some (.int ns.length)
  | _ => none
theorem lenN {W : Wd} : BcN W "len" (f1 lenD) := ⟨by decide, _, boot_len, fun X ad => ⟨_, call_len, bcOk1 (fun ι H x v d Q e r k => by
  show ∃ y n, [v] = [y] ∧ LenV X.K y H n ∧ Q (.int n) H
  replace e : lenD x = some d := e
  unfold lenD at e
  split at e
  · cases e
    obtain ⟨la, p, xs, rfl, hx, rl⟩ := rrep_lst r
    exact ⟨_, _, rfl, .inl ⟨xs, ad.k ▸ hx.sq, rl.length⟩, k _ H (fun _ _ e => e) rfl rep_int⟩
  · cases e
    obtain ⟨la, p, xs, rfl, hx, rl⟩ := rrep_tup r
    exact ⟨_, _, rfl, .inr ⟨xs, ad.k ▸ hx, rl.length⟩, k _ H (fun _ _ e => e) rfl rep_int⟩
  · cases e
    obtain ⟨rfl, l⟩ := rrep_str r
    exact ⟨_, _, rfl, ⟨by rw [SX.S_len]; exact l, (SX.S_len _).symm⟩, k _ H (fun _ _ e => e) rfl rep_int⟩
  · cases e
    obtain ⟨la, p, xs, rfl, hx, rl⟩ := rrep_ftp r
    have hl := rl.length
    rw [List.length_map] at hl
    exact ⟨_, _, rfl, .inr ⟨xs, ad.k ▸ hx, hl⟩, k _ H (fun _ _ e => e) rfl rep_int⟩
  · cases e
    obtain ⟨la, p, xs, rfl, hx, rl⟩ := rrep_itp r
    have hl := rl.length
    rw [List.length_map] at hl
    exact ⟨_, _, rfl, .inr ⟨xs, ad.k ▸ hx, hl⟩, k _ H (fun _ _ e => e) rfl rep_int⟩
  · cases e) f1_ne⟩⟩
def bls : List D → Option (List Bool)
  | [] => some []
  | .bl b :: r => (bls r).map (b :: ·)
  | _ => none
theorem bls_map (bs : List Bool) : bls (bs.map D.bl) = some bs := by
  induction bs with
  | nil => rfl
  | cons b bs ih => show (bls (bs.map D.bl)).map (b :: ·) = _; rw [ih]; rfl
theorem bls_v {W : Wd} {ι : List Addr} {H : Hp} : ∀ {ds : List D} {bs : List Bool} {vs : List V}, bls ds = some bs → RepL W ι H ds vs → vs = bs.map V.bl
  | [], _, _, e, r => by cases e; unfold RepL at r; subst r; rfl
  | d :: ds, bs, _, e, r => by
    unfold RepL at r
    obtain ⟨v, us, rfl, p, r1, r2⟩ := r
    cases d with
    | bl b =>
      have e : (bls ds).map (b :: ·) = some bs := e
      cases e1 : bls ds with
      | none => rw [e1] at e; cases e
      | some l =>
        rw [e1] at e; cases e
        unfold Rep at r1
        rw [r1, bls_v e1 r2]
        rfl
    | _ => cases e
def allD : D → Option D
  | .lst ds => (bls ds).map fun bs => .bl (bs.all id)
  | _ => none
theorem boot_all : bootBuiltins "all" = some (.builtin "all") := by decide +kernel
theorem allN {W : Wd} : BcN W "all" (f1 allD) := ⟨by decide, _, boot_all, fun X ad => ⟨_, cr_all ad.calm, bcOk1 (fun ι H x v d Q e r k => by
  replace e : allD x = some d := e
  unfold allD at e
  split at e
  · rename_i ds
    obtain ⟨la, p, xs, rfl, hx, rl⟩ := rrep_lst r
    cases e1 : bls ds with
    | none => rw [e1] at e; cases e
    | some bs =>
      rw [e1] at e; cases e
      exact ⟨p, bs, rfl, by rw [← bls_v e1 rl]; exact ad.k ▸ hx.sq, k _ H (fun _ _ e => e) rfl rep_bl'⟩
  · cases e) f1_ne⟩⟩
def absD : D → Option D
  | .int i => some (.int (if i < 0 then -i else i))
  | _ => none
theorem boot_abs : bootBuiltins "abs" = some (.builtin "abs") := by decide +kernel
theorem absN {W : Wd} : BcN W "abs" (f1 absD) := ⟨by decide, _, boot_abs, fun X ad => ⟨_, call_abs, bcOk1 (fun ι H x v d Q e r k => by
  replace e : absD x = some d := e
  unfold absD at e
  split at e
  · cases e
    rw [rrep_int r]
    exact ⟨_, rfl, k _ H (fun _ _ e => e) rfl rep_int⟩
  · cases e) f1_ne⟩⟩
def max2D : D → D → Option D
  | .int i, .int j => some (.int (if j > i then j else i))
  | _, _ => none
def min2D : D → D → Option D
  | .int i, .int j => some (.int (if j < i then j else i))
  | _, _ => none
theorem boot_max : bootBuiltins "max" = some (.builtin "max") := by decide +kernel
theorem boot_min : bootBuiltins "min" = some (.builtin "min") := by decide +kernel
theorem max2N {W : Wd} : BcN W "max" (f2 max2D) := ⟨by decide, _, boot_max, fun X ad => ⟨_, call_max2 ad.calm, bcOk2 (fun ι H x y v w d Q e r r2 k => by
  replace e : max2D x y = some d := e
  unfold max2D at e
  split at e
  · cases e
    rw [rrep_int r, rrep_int r2]
    exact ⟨_, _, rfl, k _ H (fun _ _ e => e) rfl rep_int⟩
  · cases e) f2_ne⟩⟩
theorem min2N {W : Wd} : BcN W "min" (f2 min2D) := ⟨by decide, _, boot_min, fun X ad => ⟨_, call_min2 ad.calm, bcOk2 (fun ι H x y v w d Q e r r2 k => by
  replace e : min2D x y = some d := e
  unfold min2D at e
  split at e
  · cases e
    rw [rrep_int r, rrep_int r2]
    exact ⟨_, _, rfl, k _ H (fun _ _ e => e) rfl rep_int⟩
  · cases e) f2_ne⟩⟩
def intD : D → Option D
  | .int i => some (.int i)
  | .bl b => some (.int (if b then 1 else 0))
  | _ => none
theorem boot_int : bootBuiltins "int" = some (.type "int") := by decide +kernel
theorem intN {W : Wd} : BtN W "int" (f1 intD) := ⟨by decide, _, boot_int, fun X ad => ⟨_, call_int1, bcOk1 (fun ι H x v d Q e r k => by
  replace e : intD x = some d := e
  unfold intD at e
  split at e
  · cases e
    rw [rrep_int r]
    exact .inl ⟨_, rfl, k _ H (fun _ _ e => e) rfl rep_int⟩
  · cases e
    rw [rrep_bl r]
    exact .inr ⟨_, rfl, k _ H (fun _ _ e => e) rfl rep_int⟩
  · cases e) f1_ne⟩⟩
def divmodD : D → D → Option D
  | .int i, .int j => if 0 < j ∧ j < 1073741824 then some (.tup [.int (i / j), .int (i % j)]) else none
  | _, _ => none
theorem boot_divmod : bootBuiltins "divmod" = some (.builtin "divmod") := by decide +kernel
theorem divmodN {W : Wd} : BcN W "divmod" (f2 divmodD) := ⟨by decide, _, boot_divmod, fun X ad => ⟨_, call_divmod, bcOk2 (fun ι H x y v w d Q e r r2 k => by
  replace e : divmodD x y = some d := e
  unfold divmodD at e
  split at e
  · split at e
    · rename_i h
      cases e
      rw [rrep_int r, rrep_int r2]
      refine ⟨_, _, rfl, h, fun p hp => ?_⟩
      exact k _ _ (fun b o e => by rw [upd_ne (fun z => by rw [z, hp] at e; cases e)]; exact e) rfl (rep_tup (by rw [sizeLine_eq]; simp) upd_same (.cons rfl rep_int (.cons rfl rep_int .nil)))
    · cases e
  · cases e) f2_ne⟩⟩
def tupleD : D → Option D
  | .lst ds => some (.tup ds)
  | .tup ds => some (.tup ds)
  | _ => none
def listD : D → Option (List D)
  | .lst ds => some ds
  | .tup ds => some ds
  | _ => none
theorem mtO1 {W : Wd} {r : V → List V → Hp → VK → Prop} {f : D → D → Option D} (h : ∀ ι H x v y w d Q, f x y = some d → RRep W ι H x v → RRep W ι H y w → (∀ u H', (∀ b o, H b = some o → H' b = some o) → d.plain = true → Rep W ι H' d u → Q u H') →
    (∀ ds p xs, d = .lst ds → H p = none → ds.length ≤ sizeLine → RepL W ι H ds xs → Q (.ref p) (upd H p (.lst xs))) → r v [w] H Q) : MtO W r fun x ds => (match ds with | [y] => f x y | _ => none) := by
  intro ι H x v ds vs d Q e rx rl k kk
  cases rl with
  | nil => cases e
  | cons r1 rt =>
    cases rt with
    | nil => exact h ι H x v _ _ d Q e rx r1 k kk
    | cons r2 rt => cases e
def rCntD (K : PySem.W.Frag) : V → List V → Hp → VK → Prop := fun x xs H Q => ∃ a y d ds, x = .ref a ∧ xs = [y] ∧ Dp K H (.ref a) (.list ds) ∧ Dp K H y d ∧ d.plain = true ∧ PyData.plainAll ds = true ∧ d.depth ≤ 32 ∧ Q (.int ((ds.countP fun z => PyData.eqv z d : Nat) : Int)) H
theorem mt_cntD {X : Cx} (hu : X.A.units + 65 < cLine) : MtR X "list.count" (rCntD X.K) := by
  intro pins s σ H x xs v us Q I rx rxs h
  obtain ⟨a, y, d, ds, rfl, rfl, h1, h2, h3, h4, h5, q⟩ := h
  cases rx
  cases rxs with
  | cons r1 rt =>
    cases rt
    obtain ⟨bs, e1⟩ := Dp.reads I d _ _ h2 r1
    cases h1 with
    | lst hs ha =>
      obtain ⟨its, rv, pl, _⟩ := I.list hs
      obtain ⟨as, hr⟩ := Dp.readsAll I ds _ its ha rv
      exact SeqAt.count_list_data pl.isList (vs := its.toArray) (by simpa using hr) e1 h4 h3 (by omega) ⟨.int _, H, I.tok _, ⟨_, rfl⟩, q⟩
def cntD (x : D) (ds : List D) : Nat := ds.countP fun z => eqB z x
theorem cntD_py {x : D} {ds : List D} (hx : isD x = true) (hd : isDL ds = true) : ((toPyL ds).countP fun z => PyData.eqv z (toPy x)) = cntD x ds := by
  rw [countP_toPyL]
  unfold cntD
  have h := mem_isD hd
  clear hd
  induction ds with
  | nil => rfl
  | cons z r ih =>
    rw [List.countP_cons, List.countP_cons, eqB_py z x (h z (List.mem_cons_self ..)) hx, ih fun y hy => h y (List.mem_cons_of_mem _ hy)]
def lcountD : D → D → Option D
  | .lst ds, x => if shp x && ds.all shp then some (.int (cntD x ds : Nat)) else none
  | _, _ => none
theorem lcountN {W : Wd} : MtN W "list" "count" (m1 lcountD) := ⟨"list.count", PySem.F.plainAttrs_list, PySem.F.slot_list_count, PySem.F.type_list_count, fun X ad => ⟨_, mt_cntD ad.un, mtO1 fun ι H x v y w d Q e rx ry k kk => by
  unfold lcountD at e
  split at e
  · rename_i ds
    split at e
    · rename_i h
      rw [Bool.and_eq_true] at h
      cases e
      obtain ⟨a1, a2⟩ := shp_of ry h.1
      obtain ⟨b1, _⟩ := dptL (dpt_ok 32) ds h.2
      obtain ⟨la, p, xs, rfl, hx, rl⟩ := rrep_lst rx
      refine ⟨p, _, _, _, rfl, rfl, .lst (ad.k ▸ hx.sq) (ad.k ▸ repL_dp ds rl b1), ad.k ▸ a1, plain_py _, plainL_py _, a2, ?_⟩
      rw [cntD_py (dpt_ok _ _ h.1).1 b1]
      exact k _ H (fun _ _ e => e) rfl rep_int
    · cases e
  · cases e⟩⟩
end DE
set_option Elab.async false
set_option linter.all false
set_option maxRecDepth 100000
set_option maxHeartbeats 4000000
namespace DE
open PySem PySem.Spec L2
namespace Raw
open PyProof.Rows
end Raw
theorem repL_ints {W : Wd} {ι : List Addr} {H : Hp} : ∀ {l : List Int}, RepL W ι H (l.map D.int) (l.map V.int)
  | [] => .nil
  | s :: l => .cons rfl rep_int repL_ints
end DE
set_option Elab.async false
set_option linter.all false
set_option maxRecDepth 100000
set_option maxHeartbeats 4000000
namespace DE
open PySem PySem.Spec L2
def fldOf (z : Z) (k : Nat) : D → Option D
  | .ins _ fs => fs.lookup k
  | .han n => (match z.2[n]? with
    | some (.ins _ fs) => fs.lookup k
    | _ => none)
  | _ => none
def fFld (k : Nat) (fa : Ev) : Ev := fun z => (fa z).bind fun x => (fldOf x.2 k x.1).map fun d => (d, x.2)
def semFld (k : Nat) : List Ev → Ev
  | [fa] => fFld k fa
  | _ => fun _ => none
def shFld (f : Str) : Scope → Expr → Option (List Expr) := fun _ e => match e with
  | .Attribute o g _ => if g = f ∧ noSup o = true then some [o] else none
  | _ => none
/-- the names of attributes are apart -/
def Inj (W : Wd) : Prop := ∀ i j, i < W.nn → j < W.nn → W.nm i = W.nm j → i = j
def rgDs (n : Int) : Option (List D) := if -1000000 ≤ n ∧ n ≤ 16777216 then some (rngL 0 n.toNat) else none
def semLrg : List Ev → EvA
  | [fa] => fun z => (fa z).bind fun x => (match x.1 with
    | .int n => (rgDs n).map fun l => (l, x.2)
    | _ => none)
  | _ => fun _ => none
theorem repL_rng {W : Wd} {ι : List Addr} {H : Hp} (lo : Int) (n : Nat) : RepL W ι H (rngL lo n) ((List.range n).map fun i => V.int (lo + (i : Nat))) := by
  unfold rngL
  generalize List.range n = l
  induction l with
  | nil => exact .nil
  | cons a l ih => exact .cons rfl rep_int ih
def fIsi (f : D → Option Bool) (fa : Ev) : Ev := fun z => (fa z).bind fun x => (rd x.2 x.1).bind fun d => (f d).map fun b => (.bl b, x.2)
def semIsi (f : D → Option Bool) : List Ev → Ev
  | [fa] => fIsi f fa
  | _ => fun _ => none
def shIsi (T : Str) : Scope → Expr → Option (List Expr) := fun sc e => match e with
  | .Call (.Name y _) [v, .Name t _] [] _ => if y = "isinstance" ∧ t = T ∧ glb sc y = true ∧ glb sc t = true ∧ nodbg t = true ∧ notStar v = true then some [v] else none
  | _ => none
structure IsiN (G : GX) (T : Str) (f : D → Option Bool) : Prop where
  m : G.mg "isinstance" = none
  ex : ∃ c u, ClsV c u ∧ ((G.mg T = none ∧ T ≠ "__name__" ∧ bootBuiltins T = some u) ∨ G.mg T = some u) ∧ ∀ ι H x v b, f x = some b → RRep G.W ι H x v → ∃ t, TyX G.W.K H v t ∧ PySem.W.kitOne G.W.K t u = some b
def tyIs (T A : String) : Bool := A == T || (A == "bool" && T == "int")
/-- isinstance(d, T), T a built-in type -/
def isB (T : String) (d : D) : Option Bool := (tyN d).map (tyIs T)
/-- isinstance(d, C), C an own class -/
def isC (c : Nat) : D → Option Bool
  | .ins c' _ => if c' = c then some true else if plC c' = true then some false else none
  | d => (tyN d).map fun _ => false
/-- what is known of the own classes -/
structure PlC (W : Wd) : Prop where
  ok : ∀ c C, plC c = true → W.cls c = some C → C8.InsC W.K C ∧ PySem.W.typeIn W.K (.ref C) = some (.type "type")
  ne : ∀ c c' C C', plC c = true → plC c' = true → c ≠ c' → W.cls c = some C → W.cls c' = some C' → PySem.W.kitOne W.K (.ref C') (.ref C) = some false
end DE
set_option Elab.async false
set_option linter.all false
set_option maxRecDepth 100000
set_option maxHeartbeats 4000000
namespace DE
open PySem PySem.Spec L2
def gFld (k : Nat) (fa : Ev) : EvG := fun d z => (fa z).bind fun x => (match x.1 with
  | .han n => (match x.2.2[n]? with
    | some (.ins c fs) => if Nat.blt fs.length 900 then some (x.2.1, x.2.2.set n (.ins c (putD k d fs))) else none
    | _ => none)
  | _ => none)
def semGf (k : Nat) : List Ev → EvG
  | [fa] => gFld k fa
  | _ => fun _ _ => none
end DE
set_option Elab.async false
set_option linter.all false
set_option maxRecDepth 100000
set_option maxHeartbeats 4000000
namespace DE
open PySem PySem.Spec L2
/-- C(..): what stands in the instance at the end -/
def endMk (n c : Nat) (S : Store) : Option (D × Store) := match S.drop n with
  | [.ins c' fs] => if c' = c ∧ nohF n fs = true ∧ (S.take n).all (nohM n) = true then some (.ins c fs, S.take n) else none
  | _ => none
def fMk (c n : Nat) (g : Fn) (f : EvA) : Ev := fun z => (f z).bind fun x => (lendAll x.2 x.1).bind fun ds => if ds.length = n then (match g (.han x.2.2.length :: ds) (x.2.2 ++ [.ins c []]) with
  | some (.non, S) => (endMk x.2.2.length c S).map fun r => (r.1, (x.2.1, r.2))
  | _ => none) else none
/-- a class under a name -/
structure Mak (P : Program) (w : World) (K : PySem.W.Frag) (mg : Str → Option Value) (base : Heap) (W : Wd) (k : Nat) (x : Str) (c n : Nat) (g : Fn) : Prop where
  ex : ∃ (C f : Addr) (fd : FuncData) (ps : List Str), FnG P w K mg base k f fd ps (spD W (n + 1) g) ∧ mg x = some (.ref C) ∧ Mk K C f ∧ Binds K fd ps [] ∧ W.cls c = some C ∧ Cls K C
theorem fEs {X : Cx} {W : Wd} {B : Bs} : ∀ {vs : List Expr} {fs : List Ev}, PEL X W B vs fs → vs.all notStar = true → PA X vs (tevA W B (fs.foldr fCons fNil))
  | _, _, .nil, _ => pa_nilD
  | _, _, .cons h t, q => by
    rw [List.all_cons, Bool.and_eq_true] at q
    exact pa_consD h (fEs t q.2) (star_ok q.1)
def semMk (c n : Nat) (g : Fn) (fs : List Ev) : Ev := fMk c n g (fs.foldr fCons fNil)
end DE
set_option Elab.async false
set_option linter.all false
set_option maxRecDepth 100000
set_option maxHeartbeats 4000000
namespace DE
open PySem PySem.Spec L2
def pick {α : Type} (l : List α) : List Nat → Option (List α)
  | [] => some []
  | i :: r => (l[i]?).bind fun x => (pick l r).map (x :: ·)
theorem pick_paired {α β : Type} {F : α → β → Prop} {l : List α} {m : List β} (h : Paired F l m) : ∀ {pm : List Nat} {as : List α}, pick l pm = some as → ∃ bs, pick m pm = some bs ∧ Paired F as bs
  | [], _, e => by cases e; exact ⟨[], rfl, .nil⟩
  | i :: r, as, e => by
    have e : ((l[i]?).bind fun x => (pick l r).map (x :: ·)) = some as := e
    cases e1 : l[i]? with
    | none => rw [e1] at e; cases e
    | some x =>
      rw [e1, Option.bind_some] at e
      cases e2 : pick l r with
      | none => rw [e2] at e; cases e
      | some t =>
        rw [e2] at e; cases e
        obtain ⟨bs, q1, q2⟩ := pick_paired h e2
        have hg : ∀ {l : List α} {m : List β} {i : Nat} {x : α}, Paired F l m → l[i]? = some x → ∃ y, m[i]? = some y ∧ F x y := by
          intro l m i x hp
          induction hp generalizing i with
          | nil => intro e; simp at e
          | cons h t ih =>
            intro e
            cases i with
            | zero => simp at e; subst e; exact ⟨_, rfl, h⟩
            | succ j => simp at e; obtain ⟨y, h1, h2⟩ := ih e; exact ⟨y, by simpa using h1, h2⟩
        obtain ⟨y, h1, h2⟩ := hg h e1
        refine ⟨y :: bs, ?_, .cons h2 q2⟩
        show ((m[i]?).bind fun x => (pick m r).map (x :: ·)) = _
        rw [h1, Option.bind_some, q1]; rfl
structure CalK (P : Program) (w : World) (K : PySem.W.Frag) (mg : Str → Option Value) (base : Heap) (W : Wd) (k : Nat) (x : Str) (n : Nat) (g : Fn) (ks : List Str) (pm : List Nat) : Prop where
  ex : ∃ (f : Addr) (fd : FuncData) (ps : List Str), FnG P w K mg base k f fd ps (spD W n g) ∧ mg x = some (.ref f) ∧ PySem.W.keepIn K (.ref f) = true ∧ ∀ (s : Shared) (ws as : List Value), ws.length = ks.length → pick ws pm = some as → BindsTo s fd ⟨[], ks.zip ws⟩ (ps.zip as)
def fCallK (n : Nat) (g : Fn) (m : Nat) (pm : List Nat) (f : EvA) : Ev := fun z => (f z).bind fun x => (lendAll x.2 x.1).bind fun ds => if ds.length = m then (pick ds pm).bind fun as => if as.length = n then (g as x.2.2).map fun r => (r.1, (x.2.1, r.2)) else none else none
def semCallK (n : Nat) (g : Fn) (m : Nat) (pm : List Nat) (fs : List Ev) : Ev := fCallK n g m pm (fs.foldr fCons fNil)
def kwsOk (ks : List Str) : List Keyword → Bool
  | [] => ks.isEmpty
  | q :: r => (match ks with
    | k :: t => decide (q.arg = some k) && kwsOk t r
    | [] => false)
theorem kws_ok {env : Env} {pos : Pos} : ∀ {kws : List Keyword} {ks : List Str}, kwsOk ks kws = true → (backToKw pos (keywordEach kws env)).all (·.1.isSome) = true ∧ (backToKw pos (keywordEach kws env)).filterMap (·.1) = ks ∧ (backToKw pos (keywordEach kws env)).any (·.1.isNone) = false ∧ kws.length = ks.length
  | [], ks, h => by
    cases ks with
    | nil => exact ⟨rfl, rfl, rfl, rfl⟩
    | cons _ _ => cases h
  | q :: r, ks, h => by
    cases ks with
    | nil => cases h
    | cons k t =>
      unfold kwsOk at h
      simp only [Bool.and_eq_true, decide_eq_true_eq] at h
      obtain ⟨nm, va, po⟩ := q
      have h1 : nm = some k := h.1
      subst h1
      obtain ⟨a, b, c, d⟩ := kws_ok (env := env) (pos := pos) h.2
      refine ⟨?_, ?_, ?_, by simp [d]⟩
      · show (true && _) = true
        rw [Bool.true_and]; exact a
      · show k :: _ = k :: t
        exact congrArg (k :: ·) b
      · show (false || _) = false
        rw [Bool.false_or]; exact c
theorem fKs {X : Cx} {W : Wd} {B : Bs} : ∀ {kws : List Keyword} {fs : List Ev}, PEL X W B (kws.map (·.value)) fs → PK X kws (tevA W B (fs.foldr fCons fNil))
  | [], _, h => by
    cases h
    refine ⟨fun pos pins s σ H Q I q => pk_nil.run pos pins s σ H Q I ?_⟩
    obtain ⟨ι, z, ds, z', zr, e1, k⟩ := q
    cases e1
    exact k [] ι H .refl .nil zr
  | ⟨nm, va, po⟩ :: r, _, h => by
    cases h with
    | cons h t =>
      rename_i fa ft
      refine ⟨fun pos pins s σ H Q I q => (pk_cons h (fKs t)).run pos pins s σ H Q I ?_⟩
      obtain ⟨ι, z, ds, z', zr, e1, k⟩ := q
      replace e1 : fCons fa (ft.foldr fCons fNil) z = some (ds, z') := e1
      unfold fCons at e1
      cases ea : fa z with
      | none => rw [ea] at e1; cases e1
      | some x =>
        rw [ea, Option.bind_some] at e1
        cases eb : ft.foldr fCons fNil x.2 with
        | none =>
          replace e1 : ((ft.foldr fCons fNil x.2).map fun y => (x.1 :: y.1, y.2)) = some (ds, z') := e1
          rw [eb] at e1; cases e1
        | some y =>
          replace e1 : ((ft.foldr fCons fNil x.2).map fun y => (x.1 :: y.1, y.2)) = some (ds, z') := e1
          rw [eb] at e1; cases e1
          exact ⟨ι, z, x.1, x.2, zr, ea, fun v ι1 H1 k1 r1 zr1 => ⟨ι1, x.2, y.1, y.2, zr1, eb, fun vs ι2 H2 k2 r2 zr2 => k (v :: vs) ι2 H2 (k1.trans k2) (.cons (r1.kp k2) r2) zr2⟩⟩
section
variable {prog : Program} {w : World} {A : Around} {E : Value → Shared → Prop} {s : Shared}
open AutoSeq1 (wpAny_loadPart')
theorem meets_enumT (l : Addr) (items : Array Value) (n : Nat) (dct : Option Addr) (sl : Array (Option Value)) :
    Meets (Builtin.«enumerate.__new__» ⟨[.type "enumerate", .ref l], []⟩) (fun _ R s => s.heap.get? l = some { cls := .type "tuple", dict := dct, data := .seq items n, slots := sl } ∧
      R (.ok (.ret (.ref (s.heap.push { cls := .type "tuple_iterator", data := .fields #[.ref l, .int 0 0] }).objs.size)))
        { s with heap := (s.heap.push { cls := .type "tuple_iterator", data := .fields #[.ref l, .int 0 0] }).push { cls := .type "enumerate", data := .fields #[.none, .bool false, .ref s.heap.objs.size, rawInt 0, .none, .none] } }) :=
  .of_wp fun prog w A R s h => by
    obtain ⟨hp, g, d, tk, os⟩ := s; obtain ⟨hl, h⟩ := h
    have hsub := sub_enumerate
    have hL : Heap.IsTuple (Shared.heap ⟨hp, g, d, tk, os⟩) l items := ⟨_, hl, rfl, n, rfl⟩
    wp_walk using wpAny_loadPart' hl
    refine wpAny_stack_any fun st => wpAny_pure ?_
    split
    · rename_i c _ _ _ _ _
      cases (c == Value.type "enumerate")
      · wp_walk using wpAny_loadPart' hl, wpAny_pyIter_tuple hL
        exact ⟨_, rfl, h⟩
      · wp_walk using wpAny_loadPart' hl, wpAny_pyIter_tuple hL
        exact ⟨_, rfl, h⟩
    · wp_walk using wpAny_loadPart' hl, wpAny_pyIter_tuple hL
      exact ⟨_, rfl, h⟩
theorem call_enumT {l : Addr} {items : Array Value} {Q : Value → Shared → Prop} (hL : s.heap.IsTuple l items)
    (h : ∀ h', IsEnum h' (s.heap.objs.size + 1) s.heap.objs.size 0 .none → h'.IsTupleIter s.heap.objs.size l 0 → h'.objs.size = s.heap.objs.size + 2 →
      (∀ b o, s.heap.get? b = some o → h'.get? b = some o) → Q (.ref (s.heap.objs.size + 1)) { s with heap := h' }) :
    wpAny (model prog w) A (call (.type "enumerate") [.ref l]) Q E s := by
  obtain ⟨⟨c, dct, dt, sl⟩, hl, hc, n, hd⟩ := hL
  replace hc : c = .type "tuple" := hc
  replace hd : dt = .seq items n := hd
  subst hc hd
  refine callType_new F.called_enumerate (by decide) (F.typeCall_enumerate_1 _) (F.newCall_enumerate_1 _) (fun obj => F.args_object_init_2 obj _) F.entry_enumerate_new
    (meets_enumT l items n dct sl) ⟨hl, ?_⟩
  have hz : (s.heap.push { cls := .type "tuple_iterator", data := .fields #[.ref l, .int 0 0] }).objs.size = s.heap.objs.size + 1 := Heap.size_push ..
  show _ ∧ _
  rw [hz]
  have he : IsEnum ((s.heap.push { cls := .type "tuple_iterator", data := .fields #[.ref l, .int 0 0] }).push
      { cls := .type "enumerate", data := .fields #[.none, .bool false, .ref s.heap.objs.size, rawInt 0, .none, .none] }) (s.heap.objs.size + 1) s.heap.objs.size 0 .none := by
    have := Heap.get?_push_size (s.heap.push { cls := .type "tuple_iterator", data := .fields #[.ref l, .int 0 0] })
      (o := { cls := .type "enumerate", data := .fields #[.none, .bool false, .ref s.heap.objs.size, rawInt 0, .none, .none] }) rfl
    rw [hz] at this; exact this
  refine ⟨⟨_, he, rfl⟩, h _ he ⟨_, Heap.get?_push_of_some _ (Heap.get?_push_size _ rfl), rfl, rfl⟩ (by rw [Heap.size_push, hz]) fun b o x => Heap.get?_push_of_some _ (Heap.get?_push_of_some _ x)⟩
end
section
variable {prog : Program} {w : World} {A : Around} {E : Value → Shared → Prop} {s : Shared}
theorem next_enumT_end {e it l : Addr} {i : Nat} {c : Int} {items : Array Value} {old : Value} {Q : Option Value → Shared → Prop} (hh : A.handled = none) (he : IsEnum s.heap e it c old) (hit : s.heap.IsTupleIter it l i) (hl : s.heap.IsTuple l items) (hx : items[i]? = none)
    (hQ : ∀ h', Heap.ExtBut it s.heap h' → Q none { s with heap := h' }) : wpAny (model prog w) A (pyNext (.ref e)) Q E s := by
  have hT : s.TypeIs (.ref e) "enumerate" := ⟨_, he, rfl⟩
  unfold pyNext
  refine wpAny_bind (wpAny_attempt (wpAny_callSpecial?_slot (name := Str.ofString "__next__") hT F.slot_enumerate_next
    (wpAny_call_entry F.slot_enumerate_next hT F.entry_enumerate_next ?_ (F.args_enumerate_next_1 _))))
  show wpAny _ _ (field (.ref e) 2 >>= _) _ _ _
  refine wpAny_bind (wpAny_field he rfl (x := .ref it) rfl ?_)
  refine wpAny_bind (RZ.nextOf_tuple_end hh hit hl hx fun h' x he' hx' => ?_)
  obtain ⟨o, ho, hc⟩ := hx'
  refine wpAny_bind (wpAny_isInstance (T := "StopIteration") (b := true) ⟨o, ho, hc⟩ isSubtype_stop ?_)
  exact wpAny_pure (hQ _ he')
end
/-- the tuple at a, each item in a new pair -/
def ItET (K : PySem.W.Frag) (a : Addr) : It :=
  ⟨fun i H => ∃ (xs : List V) (x : V), SqT K H a xs ∧ xs[i]? = some x, fun i H v H' => ∃ T x, v = .ref T ∧ H T = none ∧ H' = upd H T (.tup [.int (i : Nat), x]) ∧ ∀ xs, SqT K H a xs → xs[i]? = some x, fun i H => ∃ xs : List V, SqT K H a xs ∧ xs.length ≤ i⟩
theorem turn_enumT {P : Program} {w : World} {K : PySem.W.Frag} {elts : List Expr} {kk : Nat} {tpos : Pos} (a e it : Addr) (hai : a ≠ it) (hae : a ≠ e) :
    Turn P w K (.Tuple elts kk tpos) (ItET K a) [e, it] e (fun i h => (∃ old, IsEnum h e it ((i : Nat) : Int) old) ∧ h.IsTupleIter it a i ∧ e ≠ it) where
  mem := by simp
  obj := fun i h st b hb => by
    obtain ⟨⟨old, he⟩, ⟨o, ho, hc, hd⟩, _⟩ := st
    have e' : b = e ∨ b = it := by simpa using hb
    rcases e' with z | z
    · rw [z]; exact ⟨_, he, fun v q => nomatch q⟩
    · rw [z]; exact ⟨o, ho, fun v q => by rw [hd] at q; cases q⟩
  keep := fun i h h' st k => let ⟨⟨old, he⟩, hi, hne⟩ := st; ⟨⟨old, k e (by simp) _ he⟩, hi.at fun o q => k it (by simp) o q, hne⟩
  item := by
    intro X hP hw hK hc i pins s σ H E I hf st hg
    subst hP hw hK
    obtain ⟨⟨old, he⟩, hit, hne⟩ := st
    obtain ⟨xs, x, hq, hx⟩ := hg
    obtain ⟨its, rv, p, hz⟩ := I.tuple hq
    have hel : e < s.heap.objs.size := Heap.lt_size he
    have hil : it < s.heap.objs.size := by obtain ⟨_, q, _⟩ := hit; exact Heap.lt_size q
    have hlt : i < its.toArray.size := by
      rw [List.size_toArray, ← rv.length]
      exact (List.getElem?_eq_some_iff.mp hx).1
    have Dr := Draws.tuple (prog := X.prog) (w := X.w) (A := X.A.in1) (I.ok.hd hc) it a hai its.toArray
    refine wpAny_pyNext_enum_itemD Dr he ⟨hit, p⟩ hlt hne (by simp only [List.mem_cons, List.not_mem_nil, or_false, not_or]; exact ⟨hne, Ne.symm hae⟩) fun u h' tk hPu ho hst hT hsz hk => ?_
    have hu : its[i]? = some u := by simpa using hPu
    obtain ⟨u', hu', ru'⟩ := rv.get hx
    rw [hu] at hu'
    cases hu'
    refine ⟨_, rfl, wpAny_letOwnedTupleGo_enum (s := { s with heap := h', toks := tk + 1 }) ho fun h'' he' sb => ?_⟩
    have hT2 : h''.get? s.heap.objs.size = some { cls := .type "tuple", data := .seq #[.int i tk, u] } := (sb.2 _ (Nat.ne_of_gt hel)).trans hT
    have new : ObjOk X.prog X.w (upd H s.heap.objs.size (.tup [.int (i : Nat), x])) h'' s.heap.objs.size (.tup [.int (i : Nat), x]) :=
      ⟨by show 2 ≤ sizeLine; decide, [.int i tk, u], .cons ⟨_, rfl⟩ (.cons ru' .nil), ⟨_, hT2, rfl, _, rfl⟩⟩
    have I1 : Inv X pins σ (upd H s.heap.objs.size (.tup [.int (i : Nat), x])) { s with heap := h'', toks := tk + 1 } :=
      I.turnedNew (ch := [e, it]) (fun b ob hb q => (sb.2 b (fun z => hb (by simp [z]))).trans (hk b ob (fun z => hb (by simp [z])) (fun z => hb (by simp [z])) q)) hf (Nat.le_refl _) new
    refine ⟨.ref s.heap.objs.size, _, I1, rfl, ⟨_, x, rfl, I.hok.fresh (Nat.le_refl _), rfl, fun ys hy => by rw [I.tuple_inj hy hq]; exact hx⟩, ⟨⟨u, ?_⟩, hst.1.at fun o q => (sb.2 it (Ne.symm hne)).trans q, hne⟩, fun b hb => ?_⟩
    · have e1 : ((i + 1 : Nat) : Int) = (i : Int) + 1 := by omega
      rw [e1]; exact he'
    · have hb' : b < s.heap.objs.size := by
        have e' : b = e ∨ b = it := by simpa using hb
        rcases e' with z | z
        · rw [z]; exact hel
        · rw [z]; exact hil
      rw [upd_ne (Nat.ne_of_lt hb')]
      exact (hf b hb).1
  done := by
    intro X hP hw hK hc i pins s σ H E I hf st hg
    subst hP hw hK
    obtain ⟨⟨old, he⟩, hit, hne⟩ := st
    obtain ⟨xs, hq, hx⟩ := hg
    obtain ⟨its, rv, p, hz⟩ := I.tuple hq
    obtain ⟨f0, f1, f2, f3, f4, f5⟩ := hf it (by simp)
    have hl := rv.length
    exact next_enumT_end (I.ok.hd hc) he hit p (by simp; omega) fun h' eb => ⟨rfl, I.turned (t' := s.toks) (fun b o hb q => eb b o hb q) f0 f1 f3 f4 f5⟩
  self := fun A i s Q E st h => let ⟨⟨_, he⟩, _⟩ := st; wpAny_pyIter_enum he h
/-- a text, each sign in a new pair -/
def ItES (x : Str) : It :=
  ⟨fun i _ => i < x.cps.size, fun i H v H' => ∃ T c, v = .ref T ∧ H T = none ∧ H' = upd H T (.tup [.int (i : Nat), .str ⟨#[c]⟩]) ∧ x.cps[i]? = some c, fun i _ => x.cps.size ≤ i⟩
theorem turn_enumS {P : Program} {w : World} {K : PySem.W.Frag} {elts : List Expr} {kk : Nat} {tpos : Pos} (x : Str) (t : Tok) (e it : Addr) :
    Turn P w K (.Tuple elts kk tpos) (ItES x) [e, it] e (fun i h => (∃ old, IsEnum h e it ((i : Nat) : Int) old) ∧ h.IsStrIter it (strIterType x) x t i ∧ e ≠ it ∧ i ≤ x.cps.size) where
  mem := by simp
  obj := fun i h st b hb => by
    obtain ⟨⟨old, he⟩, ⟨o, ho, hc, hd⟩, _⟩ := st
    have e' : b = e ∨ b = it := by simpa using hb
    rcases e' with z | z
    · rw [z]; exact ⟨_, he, fun v q => nomatch q⟩
    · rw [z]; exact ⟨o, ho, fun v q => by rw [hd] at q; cases q⟩
  keep := fun i h h' st k => let ⟨⟨old, he⟩, ⟨o, ho, r⟩, hne⟩ := st; ⟨⟨old, k e (by simp) _ he⟩, ⟨o, k it (by simp) o ho, r⟩, hne⟩
  item := by
    intro X hP hw hK hc i pins s σ H E I hf st hg
    subst hP hw hK
    obtain ⟨⟨old, he⟩, hit, hne, _⟩ := st
    have hel : e < s.heap.objs.size := Heap.lt_size he
    have hil : it < s.heap.objs.size := by obtain ⟨_, q, _⟩ := hit; exact Heap.lt_size q
    have Dr := Draws.text (prog := X.prog) (w := X.w) (A := X.A.in1) (I.ok.hd hc) it x t
    refine wpAny_pyNext_enum_itemD Dr he hit hg hne (by simp only [List.mem_cons, List.not_mem_nil, or_false]; exact hne) fun u h' tk hPu ho hst hT hsz hk => ?_
    obtain ⟨c, u', hcx, rfl⟩ := hPu
    refine ⟨_, rfl, wpAny_letOwnedTupleGo_enum (s := { s with heap := h', toks := tk + 1 }) ho fun h'' he' sb => ?_⟩
    have hT2 : h''.get? s.heap.objs.size = some { cls := .type "tuple", data := .seq #[.int i tk, .str ⟨#[c]⟩ u'] } := (sb.2 _ (Nat.ne_of_gt hel)).trans hT
    have new : ObjOk X.prog X.w (upd H s.heap.objs.size (.tup [.int (i : Nat), .str ⟨#[c]⟩])) h'' s.heap.objs.size (.tup [.int (i : Nat), .str ⟨#[c]⟩]) :=
      ⟨by show 2 ≤ sizeLine; decide, [.int i tk, .str ⟨#[c]⟩ u'], .cons ⟨_, rfl⟩ (.cons ⟨_, rfl⟩ .nil), ⟨_, hT2, rfl, _, rfl⟩⟩
    have I1 : Inv X pins σ (upd H s.heap.objs.size (.tup [.int (i : Nat), .str ⟨#[c]⟩])) { s with heap := h'', toks := tk + 1 } :=
      I.turnedNew (ch := [e, it]) (fun b ob hb q => (sb.2 b (fun z => hb (by simp [z]))).trans (hk b ob (fun z => hb (by simp [z])) (fun z => hb (by simp [z])) q)) hf (Nat.le_refl _) new
    have hst2 : h''.IsStrIter it (strIterType x) x t (i + 1) := by
      obtain ⟨o, q, r⟩ := hst
      exact ⟨o, (sb.2 it (Ne.symm hne)).trans q, r⟩
    refine ⟨.ref s.heap.objs.size, _, I1, rfl, ⟨_, c, rfl, I.hok.fresh (Nat.le_refl _), rfl, hcx⟩, ⟨⟨.str ⟨#[c]⟩ u', ?_⟩, hst2, hne, hg⟩, fun b hb => ?_⟩
    · have e1 : ((i + 1 : Nat) : Int) = (i : Int) + 1 := by omega
      rw [e1]; exact he'
    · have hb' : b < s.heap.objs.size := by
        have e' : b = e ∨ b = it := by simpa using hb
        rcases e' with z | z
        · rw [z]; exact hel
        · rw [z]; exact hil
      rw [upd_ne (Nat.ne_of_lt hb')]
      exact (hf b hb).1
  done := by
    intro X hP hw hK hc i pins s σ H E I hf st hg
    subst hP hw hK
    obtain ⟨⟨old, he⟩, hit, hne, hi⟩ := st
    obtain ⟨f0, f1, f2, f3, f4, f5⟩ := hf it (by simp)
    have hi2 : i = x.cps.size := Nat.le_antisymm hi hg
    subst hi2
    have Dr := Draws.text (prog := X.prog) (w := X.w) (A := X.A.in1) (I.ok.hd hc) it x t
    exact wpAny_pyNext_enum_endD Dr he hit fun h' eb => ⟨rfl, I.turned (t' := s.toks) (fun b o hb q => eb b o hb q) f0 f1 f3 f4 f5⟩
  self := fun A i s Q E st h => let ⟨⟨_, he⟩, _⟩ := st; wpAny_pyIter_enum he h
def iEnumT (K : PySem.W.Frag) (ta : TA) : TI := fun σ H R => ta σ H fun vs H1 => (∃ x, vs = [.str x] ∧ R (ItES x) H1) ∨ ∃ a xs, vs = [.ref a] ∧ ((SqL K H1 a xs ∧ R (Ite K a) H1) ∨ (SqT K H1 a xs ∧ R (ItET K a) H1))
theorem pi_enumA {X : Cx} {e : Expr} {ta : TA} {p pos tpos : Pos} {elts : List Expr} {kk : Nat} (hg : Gl X "enumerate") (hm : X.mg "enumerate" = none) (ha : PA X [e] ta) (hs : starEach [e] X.env = [(false, eval e X.env)]) :
    PI X (.Tuple elts kk tpos) (.Call (.Name "enumerate" p) [e] [] pos) (iEnumT X.K ta) := by
  refine ⟨fun pins s σ H R I h => ?_⟩
  refine PyProof.Rows.Call_ (ld_blt I hg hm PyProof.Rows.boot_enumerate (PyProof.Rows.callWith_type1 (thn (ha.run pos pins s σ H _ I h) fun us s1 ⟨vs, H1, I1, r1, q1⟩ => ?_) hs rfl))
  rcases q1 with ⟨x, ex, q⟩ | q1
  · subst ex
    cases r1 with
    | cons r rr =>
      cases rr
      obtain ⟨t, rfl⟩ := r
      have fpo : ∀ b ∈ [s1.heap.objs.size + 1, s1.heap.objs.size], s1.heap.objs.size ≤ b := fun b hb => by
        have e' : b = s1.heap.objs.size + 1 ∨ b = s1.heap.objs.size := by simpa using hb
        rcases e' with z | z
        · rw [z]; exact Nat.le_add_right _ _
        · rw [z]; exact Nat.le_refl _
      refine call_enumerate_str fun h' he hit hsz hk => wpAny_pyIter_enum he ?_
      have I2 : Inv X pins σ H1 { s1 with heap := h' } := I1.kept (t' := s1.toks) hk
      exact ⟨s1.heap.objs.size + 1, [s1.heap.objs.size + 1, s1.heap.objs.size], _, _, H1, rfl, I2, turn_enumS x t (s1.heap.objs.size + 1) s1.heap.objs.size, ⟨⟨.none, he⟩, hit, Nat.succ_ne_self _, Nat.zero_le _⟩, fun b hb => I1.fpOk (fpo b hb) (I1.hok.fresh (fpo b hb)), q⟩
  obtain ⟨a, xs, ex, q1⟩ := q1
  subst ex
  cases r1 with
  | cons r rr =>
    cases rr
    cases r
    have fpo : ∀ b ∈ [s1.heap.objs.size + 1, s1.heap.objs.size], s1.heap.objs.size ≤ b := fun b hb => by
      have e' : b = s1.heap.objs.size + 1 ∨ b = s1.heap.objs.size := by simpa using hb
      rcases e' with z | z
      · rw [z]; exact Nat.le_add_right _ _
      · rw [z]; exact Nat.le_refl _
    rcases q1 with ⟨hq, q⟩ | ⟨hq, q⟩
    · obtain ⟨its, rv, p', hz⟩ := I1.list hq
      refine call_enumerate_list p'.isList fun h' he hit hsz hk => wpAny_pyIter_enum he ?_
      have I2 : Inv X pins σ H1 { s1 with heap := h' } := I1.kept (t' := s1.toks) hk
      exact ⟨s1.heap.objs.size + 1, [s1.heap.objs.size + 1, s1.heap.objs.size], _, _, H1, rfl, I2, turn_enum a (s1.heap.objs.size + 1) s1.heap.objs.size, ⟨⟨.none, he⟩, hit, Nat.succ_ne_self _⟩, fun b hb => I1.fpOk (fpo b hb) (I1.hok.fresh (fpo b hb)), q⟩
    · obtain ⟨its, rv, p', hz⟩ := I1.tuple hq
      have hlt : a < s1.heap.objs.size := by obtain ⟨o, ho, _⟩ := p'; exact Heap.lt_size ho
      refine call_enumT (show s1.heap.IsTuple a its.toArray from p') fun h' he hit hsz hk => wpAny_pyIter_enum he ?_
      have I2 : Inv X pins σ H1 { s1 with heap := h' } := I1.kept (t' := s1.toks) hk
      exact ⟨s1.heap.objs.size + 1, [s1.heap.objs.size + 1, s1.heap.objs.size], _, _, H1, rfl, I2, turn_enumT a (s1.heap.objs.size + 1) s1.heap.objs.size (Nat.ne_of_lt hlt) (Nat.ne_of_lt (Nat.lt_succ_of_lt hlt)), ⟨⟨.none, he⟩, hit, Nat.succ_ne_self _⟩, fun b hb => I1.fpOk (fpo b hb) (I1.hok.fresh (fpo b hb)), q⟩
theorem walk_enumT {K : PySem.W.Frag} {a : Addr} {xs : List V} : Walk (ItET K a) xs.length (fun H => SqT K H a xs) (YPair (fun i => some (.int (i : Nat))) (fun i => xs[i]?)) := by
  refine ⟨fun i _ hi q => ⟨xs, xs[i], q, by simp [hi]⟩, fun _ q => ⟨xs, q, Nat.le_refl _⟩, fun i H v H' _ q y => ?_⟩
  obtain ⟨T, x, h1, h2, h3, h4⟩ := y
  exact ⟨T, .int (i : Nat), x, h1, h2, h3, rfl, h4 xs q⟩
theorem enum_pair {ys : List V} {J : It} {G : Hp → Prop} (w : Walk J ys.length G (YPair (fun i => some (.int (i : Nat))) (fun i => ys[i]?))) : Walk J ys.length G (YPair (fun i => ((List.range ys.length).map fun i => V.int (0 + (i : Nat)))[i]?) (fun i => ys[i]?)) :=
  ⟨w.goes, w.stops, fun i H x H' hi g y => by
    obtain ⟨T, u, v, h1, h2, h3, h4, h5⟩ := w.yields i H x H' hi g y
    refine ⟨T, u, v, h1, h2, h3, ?_, h5⟩
    have e : ((List.range ys.length).map fun i => V.int (0 + (i : Nat)))[i]? = some (.int (0 + (i : Nat))) := by rw [List.getElem?_map, List.getElem?_range hi]; rfl
    show ((List.range ys.length).map fun i => V.int (0 + (i : Nat)))[i]? = some u
    rw [e, Int.zero_add]
    exact h4⟩
def fEnum (fa : Ev) : EvA := fun z => (fa z).bind fun x => (match x.1 with
  | .lst ds => some (enumL ds, x.2)
  | .tup ds => some (enumL ds, x.2)
  | .str s => some (enumL (s.map fun c => .str [c]), x.2)
  | .ftp ss => some (enumL (ss.map D.str), x.2)
  | _ => none)
theorem repL_signs {W : Wd} {ι : List Addr} {H : Hp} : ∀ s : List Nat, RepL W ι H (s.map fun c => D.str [c]) (s.map fun c => V.str (SX.S [c]))
  | [] => .nil
  | c :: s => .cons rfl (by unfold Rep; exact ⟨rfl, by rw [sizeLine_eq]; simp⟩) (repL_signs s)
theorem walk_enumS {s : List Nat} : Walk (ItES (SX.S s)) (s.map fun c => V.str (SX.S [c])).length (fun _ => True) (YPair (fun i => some (.int (i : Nat))) (fun i => (s.map fun c => V.str (SX.S [c]))[i]?)) := by
  refine ⟨fun i _ hi _ => ?_, fun _ _ => ?_, fun i H v H' _ _ y => ?_⟩
  · show i < (SX.S s).cps.size
    simpa using hi
  · show (SX.S s).cps.size ≤ _
    simp
  · obtain ⟨T, c, h1, h2, h3, h4⟩ := y
    refine ⟨T, .int (i : Nat), .str (SX.S [c]), h1, h2, h3, rfl, ?_⟩
    have h4' : s[i]? = some c := by simpa using h4
    show (s.map fun c => V.str (SX.S [c]))[i]? = some _
    rw [List.getElem?_map, h4']
    rfl
def semEnum : List Ev → EvA
  | [fa] => fEnum fa
  | _ => fun _ => none
def shEnum : Scope → Expr → Expr → Option (List Expr) := fun sc e tg => match e, tg with
  | .Call (.Name y _) [v] [] _, .Tuple _ _ _ => if y = "enumerate" ∧ glb sc y = true ∧ notStar v = true then some [v] else none
  | _, _ => none
theorem enumN {G : GX} {lv : Nat} (h1 : G.mg "enumerate" = none) : ExtI G lv shEnum semEnum := by
  intro N sc X fx e tg vs hs fs hp B
  unfold shEnum at hs
  split at hs
  · rename_i y p v pos es n tp
    split at hs
    · rename_i h
      cases hs
      obtain ⟨rfl, g1, ns⟩ := h
      cases hp B with
      | cons hv ht =>
        cases ht
        rename_i fa
        refine pi_mono (pi_enumA (show X.env.scope.names.lookup _ = _ by rw [fx.sc]; exact glb_ok g1) (by rw [fx.mg]; exact h1) (pa_consD hv pa_nilD (star_ok ns)) (star_ok ns)) fun σ H R q => ?_
        obtain ⟨ι, z, d, z', zr, e1, kk⟩ := q
        replace e1 : fEnum fa z = some (d, z') := e1
        unfold fEnum at e1
        cases ea : fa z with
        | none => rw [ea] at e1; cases e1
        | some x =>
          rw [ea, Option.bind_some] at e1
          have ec : fCons fa fNil z = some ([x.1], x.2) := by unfold fCons; rw [ea]; rfl
          refine ⟨ι, z, [x.1], x.2, zr, ec, fun us ι1 H1 k1 r1 zr1 => ?_⟩
          cases r1 with
          | cons r1 rt =>
            cases rt
            obtain ⟨x1, x2⟩ := x
            have hl0 : ∀ n : Nat, (rngL 0 n).length = n := fun n => by simp [rngL]
            cases x1 with
            | lst ds =>
              cases e1
              have r2 := r1.rep rfl
              unfold Rep at r2
              obtain ⟨_, a, xs, rfl, fz, rl⟩ := r2
              refine .inr ⟨a, xs, rfl, .inl ⟨fx.k ▸ fz.sq, kk _ (fun H => Fz G.W.K H a xs) ι1 H1 k1 zr1 (wlk_pair (repL_rng 0 ds.length) rl ?_ (by rw [hl0, Nat.min_self])) fz fun ι2 H2 k2 => fz_kp k2 fz⟩⟩
              rw [rl.length]
              exact enum_pair (walk_enum.mono (fun _ h => fx.k ▸ h.sq) fun _ _ _ _ _ _ y => y)
            | tup ds =>
              cases e1
              have r2 := r1.rep rfl
              unfold Rep at r2
              obtain ⟨_, a, xs, rfl, fz, rl⟩ := r2
              replace fz : SqT G.W.K H1 a xs := SqT.of fz
              refine .inr ⟨a, xs, rfl, .inr ⟨fx.k ▸ fz, kk _ (fun H => SqT G.W.K H a xs) ι1 H1 k1 zr1 (wlk_pair (repL_rng 0 ds.length) rl ?_ (by rw [hl0, Nat.min_self])) fz fun ι2 H2 k2 => fz_sqT k2.fz fz⟩⟩
              rw [rl.length]
              exact enum_pair (walk_enumT.mono (fun _ h => fx.k ▸ h) fun _ _ _ _ _ _ y => y)
            | ftp ss =>
              cases e1
              obtain ⟨_, a, xs, rfl, fz, rl⟩ := rrep_ftp (RRep.of rfl (r1.rep rfl))
              refine .inr ⟨a, xs, rfl, .inr ⟨fx.k ▸ fz, kk _ (fun H => SqT G.W.K H a xs) ι1 H1 k1 zr1 (wlk_pair (repL_rng 0 (ss.map D.str).length) rl ?_ (by rw [hl0, Nat.min_self])) fz fun ι2 H2 k2 => fz_sqT k2.fz fz⟩⟩
              rw [rl.length]
              exact enum_pair (walk_enumT.mono (fun _ h => fx.k ▸ h) fun _ _ _ _ _ _ y => y)
            | str s =>
              cases e1
              have r2 := r1.rep rfl
              unfold Rep at r2
              have rl : RepL G.W ι1 H1 (s.map fun c => D.str [c]) (s.map fun c => V.str (SX.S [c])) := repL_signs s
              refine .inl ⟨_, by rw [r2.1], kk _ (fun _ => True) ι1 H1 k1 zr1 (wlk_pair (repL_rng 0 (s.map fun c => D.str [c]).length) rl ?_ (by rw [hl0, Nat.min_self])) trivial fun _ _ _ => trivial⟩
              rw [rl.length]
              exact enum_pair walk_enumS
            | _ => cases e1
    · cases hs
  · cases hs
end DE
set_option Elab.async false
set_option linter.all false
set_option maxRecDepth 100000
set_option maxHeartbeats 4000000
namespace DE
open PySem PySem.Spec L2
abbrev SS := List (List Nat × List Nat)
def dlk : SS → List Nat → Option (List Nat)
  | [], _ => none
  | p :: l, s => if p.1 = s then some p.2 else dlk l s
def fDsub (l : SS) (fa : Ev) : Ev := fun z => (fa z).bind fun x => (match x.1 with
  | .str s => (dlk l s).map fun t => (.str t, x.2)
  | _ => none)
def semDsub (l : SS) : List Ev → Ev
  | [fa] => fDsub l fa
  | _ => fun _ => none
end DE
set_option Elab.async false
set_option linter.all false
set_option maxRecDepth 100000
set_option maxHeartbeats 4000000
namespace DE
open PySem PySem.Spec PyProof.Rows L2
end DE
set_option Elab.async false
set_option linter.all false
set_option maxRecDepth 100000
set_option maxHeartbeats 4000000
namespace DE
open PySem PySem.Spec L2
mutual
theorem cost_ok : ∀ d : D, isD d = true → cost d ≤ 1048576 → PyData.canLay0 (toPy d) = true ∧ PyData.weight (toPy d) ≤ cost d ∧ PyData.intsShort 13 (toPy d) = true ∧ PyData.showable (toPy d) = true
  | .non, _, _ => ⟨rfl, Nat.le_refl _, rfl, rfl⟩
  | .bl _, _, _ => ⟨rfl, Nat.le_refl _, rfl, rfl⟩
  | .int i, _, h => by
    by_cases hi : i.natAbs < 1000000000000
    · have hl : i.natAbs.log2 < 40 := by
        by_cases h0 : i.natAbs = 0
        · rw [h0]; decide
        · exact (Nat.log2_lt h0).mpr (by omega)
      refine ⟨rfl, ?_, ?_, ?_⟩
      · simp only [toPy, PyData.weight, cost, if_pos hi]
        split <;> omega
      · have h1 := int_text_length_le10 (a := i) (k := 12) (by decide) (by omega)
        have h2 : (Str.ofString (toString i)).length ≤ 13 := by rw [ofString_length]; omega
        simp only [toPy, PyData.intsShort, PyData.shown]
        exact decide_eq_true h2
      · simp only [toPy, PyData.showable, decide_eq_true_eq]; omega
    · simp only [cost, if_neg hi] at h; omega
  | .str s, _, h => by
    by_cases hs : s.all (fun c => Nat.blt c 1114112) = true
    · simp only [cost, if_pos hs] at h ⊢
      refine ⟨?_, ?_, rfl, rfl⟩
      · have : (SX.S s).cps.all (fun c => decide (c < 1114112)) = true := by
          rw [Array.all_eq_true_iff_forall_mem]
          intro c hc
          have hc : c ∈ s := by simpa using hc
          have := List.all_eq_true.mp hs c hc
          exact decide_eq_true (Nat.le_of_ble_eq_true this)
        simp only [toPy, PyData.canLay0, PyData.strOk]
        exact this
      · simp [toPy, PyData.weight]
    · simp only [cost, if_neg hs] at h; omega
  | .lst ds, hd, h => by
    obtain ⟨a, b, c, d⟩ := costL_ok ds (by simpa [isD] using hd) (by simpa [cost] using h)
    simp only [toPy, cost, PyData.canLay0, PyData.weight, PyData.intsShort, PyData.showable]
    exact ⟨a, b, c, d⟩
  | .tup ds, hd, h => by
    obtain ⟨a, b, c, d⟩ := costL_ok ds (by simpa [isD] using hd) (by simpa [cost] using h)
    simp only [toPy, cost, PyData.canLay0, PyData.weight, PyData.intsShort, PyData.showable]
    exact ⟨a, b, c, d⟩
  | .ins _ _, hd, _ => by simp [isD] at hd
  | .han _, hd, _ => by simp [isD] at hd
  | .bor _, hd, _ => by simp [isD] at hd
  | .brw _, hd, _ => by simp [isD] at hd
  | .fn _, hd, _ => by simp [isD] at hd
  | .ftp _, hd, _ => by simp [isD] at hd
  | .dic _, hd, _ => by simp [isD] at hd
  | .exc _ _, hd, _ => by simp [isD] at hd
  | .clo _ _, hd, _ => by simp [isD] at hd
  | .clc _ _ _, hd, _ => by simp [isD] at hd
  | .itp _, _, h => by simp [cost] at h
theorem costL_ok : ∀ ds : List D, isDL ds = true → costL ds ≤ 1048576 → PyData.canLayAll0 (toPyL ds) = true ∧ PyData.weightAll (toPyL ds) ≤ costL ds ∧ PyData.intsShortAll 13 (toPyL ds) = true ∧ PyData.showableAll (toPyL ds) = true
  | [], _, _ => ⟨rfl, Nat.le_refl _, rfl, rfl⟩
  | d :: ds, hd, h => by
    simp only [isDL, Bool.and_eq_true] at hd
    simp only [costL] at h ⊢
    obtain ⟨a, b, c, e⟩ := cost_ok d hd.1 (by omega)
    obtain ⟨a', b', c', e'⟩ := costL_ok ds hd.2 (by omega)
    simp only [toPyL, PyData.canLayAll0, PyData.weightAll, PyData.intsShortAll, PyData.showableAll, a, a', c, c', e, e', Bool.and_self, true_and, and_true]
    omega
end
theorem boot_rp : bootBuiltins "repr" = some (.builtin "repr") := PyProof.Rows.boot_repr
end DE
set_option Elab.async false
set_option linter.all false
set_option maxRecDepth 100000
set_option maxHeartbeats 4000000
namespace DE
open PySem PySem.Spec L2
end DE
set_option Elab.async false
set_option linter.all false
set_option maxRecDepth 100000
set_option maxHeartbeats 4000000
namespace DE
open PySem PySem.Spec L2 PyProof.Rows
def negD : D → Option D
  | .int i => some (.int (-i))
  | _ => none
theorem negN {W : Wd} : UnN W .USub negD := fun X ad => by
  refine ⟨_, un_neg, fun ι H x v d Q e r k => ?_⟩
  unfold negD at e
  split at e
  · cases e
    exact ⟨_, rrep_int r, k _ H (fun _ _ e => e) rfl rep_int⟩
  · cases e
end DE
set_option Elab.async false
set_option linter.all false
set_option maxRecDepth 100000
set_option maxHeartbeats 4000000
namespace DE
open PySem PySem.Spec L2
theorem RepF.noName {W : Wd} {ι : List Addr} {H : Hp} {C : Addr} {m : Str} (nm : ∀ j, j < W.nn → W.nm j ≠ m) : ∀ {fs : List (Nat × D)} {vs : List (Str × V)}, RepF W ι H C fs vs → vs.lookup m = none
  | [], _, r => by unfold RepF at r; subst r; rfl
  | (j, x) :: fs, _, r => by
    unfold RepF at r
    obtain ⟨v, us, rfl, lt, na, p, r1, r2⟩ := r
    have hb : (m == W.nm j) = false := by simpa using (nm j lt).symm
    simp [List.lookup, hb, RepF.noName nm r2]
def fMeth (c n : Nat) (g : Fn) (fo : Ev) (f : EvA) : Ev := fun z => (fo z).bind fun x => if clsOf x.2 x.1 = some c then (f x.2).bind fun y => (lendAll y.2 y.1).bind fun ds => if ds.length = n then (g (x.1 :: ds) y.2.2).map fun r => (r.1, (y.2.1, r.2)) else none else none
def semMeth (c n : Nat) (g : Fn) : List Ev → Ev
  | fo :: fs => fMeth c n g fo (fs.foldr fCons fNil)
  | _ => fun _ => none
end DE
set_option Elab.async false
set_option linter.all false
set_option maxRecDepth 100000
set_option maxHeartbeats 4000000
namespace DE
open PySem PySem.Spec L2
/-- C(..), a cell -/
def fMkC (c n : Nat) (g : Fn) (f : EvA) : Ev := fun z => (f z).bind fun x => (lendAll x.2 x.1).bind fun ds => if ds.length = n then (match g (.han x.2.2.length :: ds) (x.2.2 ++ [.ins c []]) with
  | some (.non, S) => some (.han x.2.2.length, (x.2.1, S))
  | _ => none) else none
def semMkC (c n : Nat) (g : Fn) (fs : List Ev) : Ev := fMkC c n g (fs.foldr fCons fNil)
end DE
set_option Elab.async false
set_option linter.all false
set_option maxRecDepth 100000
set_option maxHeartbeats 4000000
namespace DE
open PySem PySem.Spec L2
def keyD : D → Option Key
  | .int i => some (.inl i)
  | .str s => some (.inr (SX.S s))
  | _ => none
def keysD : List D → Option (List Key)
  | [] => some []
  | d :: ds => (keyD d).bind fun k => (keysD ds).map fun r => k :: r
def atD (z : Z) (x y : D) : Option (Option D) := match x with
  | .han n => (match z.2[n]? with
    | some (.dT kvs) => (match y with
      | .tup ds => (keysD ds).map fun k => valM kvs k
      | _ => none)
    | some (.dK kvs) => (keyD y).map fun k => valM kvs k
    | _ => none)
  | _ => none
def kDgt (x y : D × Z) : Option (D × Z) := (atD y.2 x.1 y.1).bind fun o => o.map fun d => (d, y.2)
def fDgt (fa fb : Ev) : Ev := fun z => (fa z).bind fun x => (fb x.2).bind fun y => kDgt x y
def semDgt : List Ev → Ev
  | [fa, fb] => fDgt fa fb
  | _ => fun _ => none
def kDin (b : Bool) (x y : D × Z) : Option (D × Z) := (atD y.2 y.1 x.1).map fun o => (.bl (xor b o.isSome), y.2)
def fDin (b : Bool) (fa fb : Ev) : Ev := fun z => (fa z).bind fun x => (fb x.2).bind fun y => kDin b x y
def putD2 (x y d : D) (z : Z) : Option Z := match x with
  | .han n => (match z.2[n]? with
    | some (.dT kvs) => (match y with
      | .tup ds => (keysD ds).bind fun k => if kvs.length < 65000 then some (z.1, z.2.set n (.dT (putM kvs k d))) else none
      | _ => none)
    | some (.dK kvs) => (keyD y).bind fun k => if kvs.length < 65000 then some (z.1, z.2.set n (.dK (putM kvs k d))) else none
    | _ => none)
  | _ => none
def gDput (fa fb : Ev) : EvG := fun d z => (fa z).bind fun x => (fb x.2).bind fun y => putD2 x.1 y.1 d y.2
def semDput : List Ev → EvG
  | [fa, fb] => gDput fa fb
  | _ => fun _ _ => none
end DE
set_option Elab.async false
set_option linter.all false
set_option maxRecDepth 100000
set_option maxHeartbeats 4000000
namespace DE
open PySem PySem.Spec L2
def fDnew (t : Bool) : Ev := fun z => some (.han z.2.length, (z.1, z.2 ++ [if t then .dT [] else .dK []]))
def semDnew (t : Bool) : List Ev → Ev
  | [] => fDnew t
  | _ => fun _ => none
def kDone (x y : D × Z) : Option (D × Z) := match x.1 with
  | .tup ds => (keysD ds).bind fun ks => if y.1.plain = true then some (.han y.2.2.length, (y.2.1, y.2.2 ++ [.dT [(ks, y.1)]])) else none
  | _ => none
def fDone (fk fv : Ev) : Ev := fun z => (fk z).bind fun x => (fv x.2).bind fun y => kDone x y
def semDone : List Ev → Ev
  | [fk, fv] => fDone fk fv
  | _ => fun _ => none
end DE
set_option Elab.async false
set_option linter.all false
set_option maxRecDepth 100000
set_option maxHeartbeats 4000000
namespace DE
open PySem PySem.Spec L2
def kPar3 (i j l : Nat) (x : List D × Z) : Option (Fl × Z) := match x.1 with
  | [a, b, c] => if (a.plain && b.plain && c.plain) = true then some (.nx, (((x.2.1.set i (some (.imm a))).set j (some (.imm b))).set l (some (.imm c)), x.2.2)) else none
  | _ => none
def semPar3 (i j l : Nat) (fs : List Ev) : EvS := fun z => (fs.foldr fCons fNil z).bind (kPar3 i j l)
end DE
set_option Elab.async false
set_option linter.all false
set_option maxRecDepth 100000
set_option maxHeartbeats 4000000
namespace DE
open PySem PySem.Spec L2
def idxS (x : List Nat) : List (List Nat) → Nat → Option Nat
  | [], _ => none
  | y :: l, i => if y = x then some i else idxS x l (i + 1)
def tiB (z : Z) : D → D → Option (D × Z)
  | .ftp ss, .str x => (idxS x ss 0).map fun j => (.int (j : Nat), z)
  | _, _ => none
def semTidx : List Ev → Ev
  | [fo, fa] => fun z => (fo z).bind fun x => (fa x.2).bind fun y => tiB y.2 x.1 y.1
  | _ => fun _ => none
structure CalV (P : Program) (w : World) (K : PySem.W.Frag) (mg : Str → Option Value) (base : Heap) (W : Wd) (lv k n : Nat) (g : Fn) : Prop where
  ex : ∃ (f : Addr) (fd : FuncData) (ps : List Str), FnG P w K mg base lv f fd ps (spD W n g) ∧ W.fns k = some f ∧ PySem.W.keepIn K (.ref f) = true ∧ Binds K fd ps []
end DE
set_option Elab.async false
set_option linter.all false
set_option maxRecDepth 100000
set_option maxHeartbeats 4000000
namespace DE
open PySem PySem.Spec L2 PyProof.Rows
structure ZApart (z TI TO i1 i2 a b : Addr) : Prop where
  S : ZipSep2 z TI TO i1 i2 [i1, a] [i2, b]
  a1 : a ≠ i1
  b2 : b ≠ i2
end DE
set_option Elab.async false
set_option linter.all false
set_option maxRecDepth 100000
set_option maxHeartbeats 4000000
namespace DE
open PySem PySem.Spec L2 PyProof.Rows
end DE
set_option Elab.async false
set_option linter.all false
set_option maxRecDepth 100000
set_option maxHeartbeats 4000000
namespace DE
open PySem PySem.Spec L2 PyProof.Rows
end DE
set_option Elab.async false
set_option linter.all false
set_option maxRecDepth 100000
set_option maxHeartbeats 4000000
namespace DE
open PySem PySem.Spec L2 PyProof.Rows
def ftB : D × Z → Option (List D × Z)
  | (.ftp ss, z) => some (ss.map D.str, z)
  | _ => none
def semIft : List Ev → EvA
  | [fa] => fun z => (fa z).bind ftB
  | _ => fun _ => none
def prB (t : List (Nat × Nat)) : D × Z → Option (D × Z)
  | (.ins c fs, z) => (t.lookup c).bind fun k => (fs.lookup k).map fun d => (d, z)
  | _ => none
def semPr (t : List (Nat × Nat)) : List Ev → Ev
  | [fa] => fun z => (fa z).bind (prB t)
  | _ => fun _ => none
end DE
set_option Elab.async false
set_option linter.all false
set_option maxRecDepth 100000
set_option maxHeartbeats 4000000
namespace DE
open PySem PySem.Spec L2 PyProof.Rows
end DE
set_option Elab.async false
set_option linter.all false
set_option maxRecDepth 100000
set_option maxHeartbeats 4000000
namespace DE
open PySem PySem.Spec L2 PyProof.Rows
end DE
set_option Elab.async false
set_option linter.all false
set_option maxRecDepth 100000
set_option maxHeartbeats 4000000
namespace DE
open PySem PySem.Spec L2 PyProof.Rows
section
variable {P : Program} {w : World} {h h' : Heap} {a : Addr} {S : Str → Bool} {n : Nat}
theorem SetT.congr {S' : Str → Bool} (R : SetT w h a S n) (e : ∀ k, S' k = S k) : SetT w h a S' n := by
  rw [show S' = S from funext e]; exact R
end
end DE
set_option Elab.async false
set_option linter.all false
set_option maxRecDepth 100000
set_option maxHeartbeats 4000000
namespace DE
open PySem PySem.Spec L2 PyProof.Rows
end DE
set_option Elab.async false
set_option linter.all false
set_option maxRecDepth 100000
set_option maxHeartbeats 4000000
namespace DE
open PySem PySem.Spec L2 PyProof.Rows
end DE
set_option Elab.async false
set_option linter.all false
set_option maxRecDepth 100000
set_option maxHeartbeats 4000000
namespace DE
open PySem PySem.Spec L2 PyProof.Rows
structure KTab (G : GX) (x : Str) (kvs : List (List Nat × D)) : Prop where
  ex : ∃ d es n, G.mg x = some (.ref d) ∧ KDict G.W.K G.w d es n ∧ ∀ p ∈ kvs, ∃ u v, PySem.W.nsIn G.W.K d (SX.S p.1) = some (some u) ∧ RelV v u ∧ p.2.plain = true ∧ ∀ ι H, Rep G.W ι H p.2 v
def klk : List (List Nat × D) → List Nat → Option D
  | [], _ => none
  | p :: l, s => if p.1 = s then some p.2 else klk l s
end DE
set_option Elab.async false
set_option linter.all false
set_option maxRecDepth 100000
set_option maxHeartbeats 4000000
namespace DE
open PySem PySem.Spec L2 PyProof.Rows
end DE
set_option Elab.async false
set_option linter.all false
set_option maxRecDepth 100000
set_option maxHeartbeats 4000000
namespace DE
open PySem PySem.Spec L2 PyProof.Rows
abbrev SF := List (List Nat × Str × Nat)
end DE
set_option Elab.async false
set_option linter.all false
set_option maxRecDepth 100000
set_option maxHeartbeats 4000000
namespace DE
open PySem PySem.Spec PyProof.Rows L2
end DE
set_option Elab.async false
set_option linter.all false
set_option maxRecDepth 100000
set_option maxHeartbeats 4000000
namespace DE
open PySem PySem.Spec PyProof.Rows L2
end DE
set_option Elab.async false
set_option linter.all false
set_option maxRecDepth 100000
set_option maxHeartbeats 4000000
namespace DE
open PySem PySem.Spec PyProof.Rows L2
end DE
set_option Elab.async false
set_option linter.all false
set_option maxRecDepth 100000
set_option maxHeartbeats 4000000
namespace DE
open PySem PySem.Spec PyProof.Rows L2
end DE
set_option Elab.async false
set_option linter.all false
set_option maxRecDepth 100000
set_option maxHeartbeats 4000000
namespace DE
open PySem PySem.Spec L2 PyProof.Rows
end DE
namespace DE
open PySem PySem.Spec L2 PyProof.Rows
end DE
set_option Elab.async false
set_option linter.all false
set_option maxRecDepth 100000
set_option maxHeartbeats 4000000
namespace DE
open PySem PySem.Spec PyProof.Rows L2
/-- a new dict is locked -/
theorem pe_lockK {X : Cx} {e : Expr} {t : TE} (h : PE X e t) : PE X e (fun σ H Q => t σ H fun v H1 => ∃ p kvs, v = .ref p ∧ H1 p = some (.dK kvs) ∧ ∀ o, Q v (upd H1 p (.frz o (.dK kvs)))) :=
  ⟨fun pins s σ H Q I q => thn (h.run pins s σ H _ I q) fun r s1 ⟨v, H1, I1, rv, p, kvs, ev, e1, k⟩ => by
    obtain ⟨o, I2⟩ := I1.lock e1 trivial
    exact ⟨v, _, I2, rv, k o⟩⟩
def kDic (x y : D × Z) : Option (D × Z) := match x.1, y.1 with
  | .str s, d => if d.plain = true then some (.dic [(Sum.inr (SX.S s), d)], y.2) else none
  | _, _ => none
def semDic : List Ev → Ev
  | [] => fun z => some (.dic [], z)
  | [fk, fv] => fun z => (fk z).bind fun x => (fv x.2).bind fun y => kDic x y
  | _ => fun _ => none
def shDic : Scope → Expr → Option (List Expr) := fun _ e => match e with
  | .Dict [] [] _ => some []
  | .Dict [some k] [v] _ => some [k, v]
  | _ => none
theorem dicN {G : GX} {lv : Nat} : ExtN G lv shDic semDic := by
  intro N sc X fx e vs hs fs hp B
  unfold shDic at hs
  split at hs
  · rename_i pos
    cases hs
    cases hp B
    show PE X _ (tev G.W B (semDic []))
    refine pe_mono (pe_lockK pe_dnewK) fun σ H Q q => ?_
    obtain ⟨ι, z, d, z', zr, e1, kk⟩ := q
    cases e1
    intro p hp
    refine ⟨p, [], rfl, upd_same, fun o => ?_⟩
    rw [upd_upd]
    refine kk _ ι _ (Kp.alloc hp) (XRep.of rfl ?_) (zr.alloc hp)
    unfold Rep
    exact ⟨Nat.zero_le _, p, o, [], rfl, upd_same, by unfold RepD; rfl⟩
  · rename_i k v pos
    cases hs
    have hp0 := hp B
    cases hp0 with
    | cons _ ht =>
      cases ht with
      | cons _ ht =>
        cases ht
        rename_i fk _ fv _
        have h1 : ∀ B, PE X k (tev G.W B fk) := fun B => by cases hp B with | cons h _ => exact h
        have h2 : ∀ B, PE X v (tev G.W B fv) := fun B => by
          cases hp B with
          | cons _ t => cases t with | cons h _ => exact h
        show PE X _ (tev G.W B (semDic [fk, fv]))
        refine pe_mono (pe_lockK (pe_disp (pps_cons (pe_anyB h1) (pe_anyB h2) pps_nil) rfl rfl (by simp) (by simp))) fun σ H Q q => ?_
        obtain ⟨ι, z, d, z', zr, e1, kk⟩ := q
        intro p hp
        replace e1 : ((fk z).bind fun x => (fv x.2).bind fun y => kDic x y) = some (d, z') := e1
        cases ea : fk z with
        | none => rw [ea] at e1; cases e1
        | some x =>
          rw [ea, Option.bind_some] at e1
          cases eb : fv x.2 with
          | none => rw [eb] at e1; cases e1
          | some y =>
            rw [eb, Option.bind_some] at e1
            unfold kDic at e1
            split at e1
            · rename_i s hx
              split at e1
              case isFalse => cases e1
              rename_i hpl
              cases e1
              have fr := Fr.of zr hp
              have zr0 : ZR G.W ⟨B.ι, B.H, upd B.P p (.dK [])⟩ ι (upd H p (.dK [])) σ z := (zr.alloc hp).guard fr upd_same
              refine ⟨⟨B.ι, B.H, upd B.P p (.dK [])⟩, ι, z, x.1, x.2, zr0, ea, fun vx ι1 H1 k1 r1 zr1 => ⟨⟨B.ι, B.H, upd B.P p (.dK [])⟩, ι1, x.2, y.1, y.2, zr1, eb, fun vy ι2 H2 k2 r2 zr2 => ?_⟩⟩
              obtain ⟨zr3, fr3, hp3⟩ := zr2.unguard fr.b
              rw [hx] at r1
              have rx := r1.rep rfl
              unfold Rep at rx
              refine ⟨hp3, [(Sum.inr (SX.S s), vy)], by rw [rx.1]; rfl, by simp, p, _, rfl, upd_same, fun o => ?_⟩
              rw [upd_upd]
              have k3 : Kp ι2 H2 ι2 (upd H2 p (.frz o (.dK (mergeK [] [(Sum.inr (SX.S s), vy)])))) := Kp.at_ hp3 rfl (fun _ _ _ q => by cases q)
              have zr4 := zr3.at_fr fr3 (nte_dK hp3) k3
              refine kk (.ref p) ι2 _ ((((Kp.alloc hp).trans k1).trans k2).trans k3) (XRep.of rfl ?_) zr4
              have ry := (r2.rep hpl).kp k3 hpl
              unfold Rep
              exact ⟨by rw [sizeLine_eq]; show 1 ≤ _; omega, p, o, _, rfl, upd_same, by unfold RepD; exact ⟨vy, [], rfl, hpl, ry, by unfold RepD; rfl⟩⟩
            · cases e1
  · cases hs
end DE
set_option Elab.async false
set_option linter.all false
set_option maxRecDepth 100000
set_option maxHeartbeats 4000000
namespace DE
open PySem PySem.Spec L2
end DE
set_option Elab.async false
set_option linter.all false
set_option maxRecDepth 100000
set_option maxHeartbeats 4000000
namespace DE
open PySem PySem.Spec L2 PyProof.Rows
end DE
set_option Elab.async false
set_option linter.all false
set_option maxRecDepth 100000
set_option maxHeartbeats 4000000
namespace DE
open PySem PySem.Spec PyProof.Rows HT L2
def kItp (x : D × Z) : Option (D × Z) := match x.1 with
  | .int i => some (.itp [i], x.2)
  | _ => none
def semItp : List Ev → Ev
  | [] => fun z => some (.itp [], z)
  | [f] => fun z => (f z).bind kItp
  | _ => fun _ => none
def idxI (x : Int) : List Int → Nat → Option Nat
  | [], _ => none
  | y :: l, i => if y = x then some i else idxI x l (i + 1)
def tiI (z : Z) : D → D → Option (D × Z)
  | .itp ss, .int x => (idxI x ss 0).map fun j => (.int (j : Nat), z)
  | _, _ => none
def kTi2 (a : D) (y : D × Z) : Option (D × Z) := tiI y.2 a y.1
def kTi1 (fa : Ev) (x : D × Z) : Option (D × Z) := (fa x.2).bind (kTi2 x.1)
def semTidI : List Ev → Ev
  | [fo, fa] => fun z => (fo z).bind (kTi1 fa)
  | _ => fun _ => none
end DE
set_option Elab.async false
set_option linter.all false
set_option maxRecDepth 100000
set_option maxHeartbeats 4000000
namespace DE
open PySem PySem.Spec PyProof.Rows L2
end DE
set_option Elab.async false
set_option linter.all false
set_option maxRecDepth 100000
set_option maxHeartbeats 4000000
namespace DE
open PySem PySem.Spec L2
end DE
set_option Elab.async false
set_option linter.all false
set_option maxRecDepth 100000
set_option maxHeartbeats 4000000
namespace DE
open PySem PySem.Spec L2
end DE
set_option Elab.async false
set_option linter.all false
set_option maxRecDepth 100000
set_option maxHeartbeats 4000000
namespace DE
open PySem PySem.Spec L2 PyProof.Rows
structure KTab0 (G : GX) (x : Str) (kvs : List (List Nat × D)) : Prop where
  ex : ∃ d es n, G.mg x = some (.ref d) ∧ KDict G.W.K G.w d es n ∧ (∀ p ∈ kvs, ∃ u v, PySem.W.nsIn G.W.K d (SX.S p.1) = some (some u) ∧ RelV v u ∧ p.2.plain = true ∧ ∀ ι H, Rep G.W ι H p.2 v) ∧ ∀ s, klk kvs s = none → PySem.W.nsIn G.W.K d (SX.S s) = some none
end DE
set_option Elab.async false
set_option linter.all false
set_option maxRecDepth 100000
set_option maxHeartbeats 4000000
namespace DE
open PySem PySem.Spec PyProof.Rows L2
end DE
set_option Elab.async false
set_option linter.all false
set_option maxRecDepth 100000
set_option maxHeartbeats 4000000
namespace DE
open PySem PySem.Spec PyProof.Rows L2
end DE
set_option Elab.async false
set_option linter.all false
set_option maxRecDepth 100000
set_option maxHeartbeats 4000000
namespace DE
open PySem PySem.Spec PyProof.Rows L2
end DE
set_option Elab.async false
set_option linter.all false
set_option maxRecDepth 100000
set_option maxHeartbeats 4000000
namespace DE
open PySem PySem.Spec PyProof.Rows L2
end DE
set_option Elab.async false
set_option linter.all false
set_option maxRecDepth 100000
set_option maxHeartbeats 4000000
namespace DE
open PySem PySem.Spec PyProof.Rows L2
end DE
set_option Elab.async false
set_option linter.all false
set_option maxRecDepth 100000
set_option maxHeartbeats 4000000
namespace DE
open PySem PySem.Spec PyProof.Rows L2
end DE
set_option Elab.async false
set_option linter.all false
set_option maxRecDepth 100000
set_option maxHeartbeats 4000000
namespace DE
open PySem PySem.Spec PyProof.Rows L2
end DE
set_option Elab.async false
set_option linter.all false
set_option maxRecDepth 100000
set_option maxHeartbeats 4000000
namespace DE
open PySem PySem.Spec L2
end DE
set_option Elab.async false
set_option linter.all false
set_option maxRecDepth 100000
set_option maxHeartbeats 4000000
namespace DE
open PySem PySem.Spec PyProof.Rows L2
end DE
set_option Elab.async false
set_option linter.all false
set_option maxRecDepth 100000
set_option maxHeartbeats 4000000
namespace DE
open PySem PySem.Spec PyProof.Rows L2
/-- what x stands for reads as this data, wherever the heap fits -/
def RdAs (X : Cx) (H : Hp) (x : V) (p : PyData) : Prop := ∀ (h : Heap) (u : Value), HOk X.prog X.w H h → RelV x u → ∃ as, Reads h u p as
def RdsAs (X : Cx) (H : Hp) (xs : List V) (ps : List PyData) : Prop := ∀ (h : Heap) (us : List Value), HOk X.prog X.w H h → Vals xs us → ∃ as, ReadsAll h us ps as
mutual
def pyD : D → Option PyData
  | .int i => some (.int i)
  | .str s => some (.str (SX.S s))
  | .tup ds => (pyL ds).map PyData.tuple
  | _ => none
def pyL : List D → Option (List PyData)
  | [] => some []
  | d :: ds => (pyD d).bind fun p => (pyL ds).map fun ps => p :: ps
end
mutual
theorem pyD_rd {W : Wd} {ι : List Addr} {H : Hp} {X : Cx} : ∀ (d : D) {v : V} {p : PyData}, pyD d = some p → Rep W ι H d v → RdAs X H v p
  | .int i, v, p, e, r => by
    unfold pyD at e
    unfold Rep at r
    cases e
    subst r
    intro h u _ ru
    obtain ⟨t, rfl⟩ := ru
    exact ⟨[], .int i t⟩
  | .str s, v, p, e, r => by
    unfold pyD at e
    unfold Rep at r
    cases e
    obtain ⟨rfl, _⟩ := r
    intro h u _ ru
    obtain ⟨t, rfl⟩ := ru
    exact ⟨[], .str _ t⟩
  | .tup ds, v, p, e, r => by
    unfold pyD at e
    unfold Rep at r
    obtain ⟨_, a, xs, rfl, ha, rl⟩ := r
    cases e1 : pyL ds with
    | none => rw [e1] at e; cases e
    | some ps =>
      rw [e1] at e
      cases e
      intro h u hk ru
      obtain rfl : u = Value.ref a := ru
      obtain ⟨_, its, rv, o, ho, hc, n, hd⟩ := (show ObjOk X.prog X.w H h a (.tup xs) from hk a _ ha)
      obtain ⟨as, ra⟩ := pyL_rd (X := X) ds e1 rl h its hk rv
      exact ⟨as, .tuple ho hc hd (by simpa using ra)⟩
  | .non, _, _, e, _ => by unfold pyD at e; cases e
  | .bl _, _, _, e, _ => by unfold pyD at e; cases e
  | .lst _, _, _, e, _ => by unfold pyD at e; cases e
  | .ins _ _, _, _, e, _ => by unfold pyD at e; cases e
  | .han _, _, _, e, _ => by unfold pyD at e; cases e
  | .bor _, _, _, e, _ => by unfold pyD at e; cases e
  | .brw _, _, _, e, _ => by unfold pyD at e; cases e
  | .fn _, _, _, e, _ => by unfold pyD at e; cases e
  | .ftp _, _, _, e, _ => by unfold pyD at e; cases e
  | .itp _, _, _, e, _ => by unfold pyD at e; cases e
  | .dic _, _, _, e, _ => by unfold pyD at e; cases e
  | .exc _ _, _, _, e, _ => by unfold pyD at e; cases e
  | .clo _ _, _, _, e, _ => by unfold pyD at e; cases e
  | .clc _ _ _, _, _, e, _ => by unfold pyD at e; cases e
theorem pyL_rd {W : Wd} {ι : List Addr} {H : Hp} {X : Cx} : ∀ (ds : List D) {vs : List V} {ps : List PyData}, pyL ds = some ps → RepL W ι H ds vs → RdsAs X H vs ps
  | [], vs, ps, e, r => by
    unfold pyL at e
    cases e
    unfold RepL at r
    subst r
    intro h us _ ru
    cases ru
    exact ⟨[], .nil⟩
  | d :: ds, vs, ps, e, r => by
    unfold pyL at e
    unfold RepL at r
    obtain ⟨v, w, rfl, _, r1, r2⟩ := r
    cases e1 : pyD d with
    | none => rw [e1] at e; cases e
    | some p =>
      rw [e1, Option.bind_some] at e
      cases e2 : pyL ds with
      | none => rw [e2] at e; cases e
      | some qs =>
        rw [e2] at e
        cases e
        intro h us hk ru
        cases ru with
        | cons h1 t =>
          obtain ⟨as, ra⟩ := pyD_rd (X := X) d e1 r1 h _ hk h1
          obtain ⟨bs, rb⟩ := pyL_rd (X := X) ds e2 r2 h _ hk t
          exact ⟨as ++ bs, .cons ra rb⟩
end
end DE
set_option Elab.async false
set_option linter.all false
set_option maxRecDepth 100000
set_option maxHeartbeats 4000000
namespace KK
open PySem PySem.Spec L2 DE
def nms : List Str := ["given", "index", "number", "told", "written", "rules", "lines", "many", "kept", "known", "ends", "starts", "heads", "table", "now_kept", "past", "owner"]
def law_purse_b0 : Ss := (.cons (.set 3 (.bin .Mod modD (.bt "int" (f1 intD) (.cons (.bin .Add addD (.bin .Add addD (.bin .Mult mulD (.var 3) (.cst (.int 41539))) (.bin .Mod modD (.bt "int" (f1 intD) (.cons (.var 4) .nil)) (.cst (.int 2147483647)))) (.cst (.int 101))) .nil)) (.cst (.int 2147483647)))) .nil)
def ir_law_purse : Ss := (.cons (.set 2 (.ife (.cmp .Lt ltD (.var 1) (.bc "len" (f1 lenD) (.cons (.var 0) .nil))) (.idx ixD (.var 0) (.var 1)) (.bin .Mult mulD (.cst (.int 6151)) (.bin .Add addD (.var 1) (.cst (.int 5)))))) (.cons (.set 3 (.bin .Add addD (.cst (.int 907)) (.var 1))) (.cons (.fors (.ex (.bin .Add addD (.slc slD (.var 0) .no (.yes (.cst (.int 5)))) (.fr (.dsp (.cons (.var 2) .nil))))) (.nm 4) law_purse_b0) (.cons (.ret (.cel (.dsp (.cons (.ife (.cmp .GtE geD (.bc "abs" (f1 absD) (.cons (.var 2) .nil)) (.bin .Pow powD (.cst (.int 10)) (.cst (.int 18)))) (.bc "abs" (f1 absD) (.cons (.var 2) .nil)) (.cst (.int 0))) (.cons (.var 3) .nil))))) .nil))))
def m_law_purse : Fn := fnD 5 ir_law_purse
def ir_law_draw : Ss := (.cons (.ife (.cmp .Gt gtD (.idx ixD (.var 0) (.cst (.int 0))) (.cst (.int 0))) (.cons (.asg (.tp (.cons (.ix (.var 0) (.cst (.int 0))) (.cons (.nm 2) .nil))) (.bc "divmod" (f2 divmodD) (.cons (.idx ixD (.var 0) (.cst (.int 0))) (.cons (.var 1) .nil)))) (.cons (.ret (.var 2)) .nil)) .nil) (.cons (.asg (.ix (.var 0) (.cst (.int 1))) (.bin .Mod modD (.bt "int" (f1 intD) (.cons (.bin .Add addD (.bin .Mult mulD (.idx ixD (.var 0) (.cst (.int 1))) (.cst (.int 48683))) (.cst (.int 40503))) .nil)) (.cst (.int 2147483647)))) (.cons (.ret (.bin .Mod modD (.bt "int" (f1 intD) (.cons (.bin .FloorDiv fdivD (.idx ixD (.var 0) (.cst (.int 1))) (.cst (.int 1024))) .nil)) (.var 1))) .nil)))
def m_law_draw : Fn := fnD 3 ir_law_draw
def ir_law_thing_v1 : Ss := (.cons (.set 1 (.fr (.dsp (.cons (.cst .non) (.cons (.cst (.bl true)) (.cons (.cst (.int 0)) (.cons (.un .USub negD (.bin .Pow powD (.cst (.int 10)) (.cst (.int 30)))) (.cons (.cst (.str [])) (.cons (.cst (.str [97])) (.cons (.cst (.str [97, 32, 98, 58, 32, 43, 45])) (.cons (.tup .nil) (.cons (.tup (.cons (.cst (.str [97])) (.cons (.tup (.cons (.cst (.str [98])) (.cons (.cst (.int 1)) .nil))) .nil))) (.cons (.fr (.dsp .nil)) (.cons (.fr (.dsp (.cons (.fr (.dsp (.cons (.cst (.str [97])) .nil))) .nil))) (.cons (.ext shDic semDic .nil) (.cons (.ext shDic semDic (.cons (.cst (.str [97])) (.cons (.tup .nil) .nil))) .nil)))))))))))))))) (.cons (.ret (.idx ixD (.var 1) (.call "_law_draw" 2 m_law_draw (.cons (.var 0) (.cons (.cst (.int 13)) .nil))))) .nil))
def m_law_thing_v1 : Fn := fnD 2 ir_law_thing_v1
end KK
set_option Elab.async false
set_option linter.all false
set_option maxRecDepth 100000
set_option maxHeartbeats 4000000
namespace DE
open PySem PySem.Spec PyProof.Rows L2
theorem xbase_ve : XBase veMro "ValueError.__new__" := ⟨⟨_, _, PySem.F.excBase_ValueError⟩, PySem.F.store_ValueError.passes, by decide +kernel⟩
theorem xbase_ae : XBase aeMro "ArithmeticError.__new__" := ⟨⟨_, _, PySem.F.excBase_ArithmeticError⟩, fun self => by kernel_rfl, by decide +kernel⟩
section
variable {prog : Program} {w : World} {A : Around} {E : Value → Shared → Prop} {R : Result → Shared → Prop} {s : Shared} {K : PySem.W.Frag} {C : Addr}
open Builtin Builtin.ObjectAttr in
theorem xosa {name : Str} {v : Value} {x : Addr} {fv : Array Value} (T : ExT K C) {hp : Heap} {g : Array GenState} {d : Drawn} {t : Nat} {os : OsState} {tk : Tok}
    (X : K.In hp) (hx : hp.get? x = some { cls := .ref C, data := .fields fv }) (ha : PySem.W.findIn K (.ref C) name = some none)
    (hq : ∀ h' tk' dx, (∀ b o, b ≠ x → hp.get? b = some o → h'.get? b = some o) → hp.objs.size ≤ dx → dx ≠ x → h'.get? x = some { cls := .ref C, dict := some dx, data := .fields fv } →
      h'.Ns1 dx (fun y => if y = name then some v else none) → R (.ok (.ret .none)) ⟨h', g, d, tk', os⟩) :
    codeAny (model prog w) A (.call (.builtin "object.__setattr__") ⟨[.ref x, .str name tk, v], []⟩) R ⟨hp, g, d, t, os⟩ := by
  obtain ⟨bmB, newId, nm, N, qn, bs, bm, sn, sub0, ab, col, dd, k0, k1, k2, k3, k5, B, ho, ht⟩ := T.obj
  have hcd : PySem.W.clsIn K C = some { name := nm, bases := bs, mro := .ref C :: bm, ns := N, qualname := qn, hasDict := true, slotNames := sn, subclasses := sub0, abstract := ab, collection := col, hasDel := false } := by unfold PySem.W.clsIn; rw [ho] <;> rfl
  have I : PySem.W.InstAt hp x { cls := .ref C, data := .fields fv } C none := ⟨hx, rfl, rfl, trivial⟩
  have SF := PySem.F.store_object
  have hob : (Value.ref C :: bm).contains (.type "object") = true := by rw [List.contains_cons, PySem.W.excTail_contains "object" _ ht, B.ob, Bool.or_true]
  have hxs : x ≠ hp.objs.size := Nat.ne_of_lt (Heap.lt_size hx)
  have sub : PySem.W.Looks (model prog w) hp (isInstance (.ref x) (.type "object")) true := I.type.andThen (PySem.W.looks_mroIn X (by unfold PySem.W.mroIn; rw [hcd, Option.bind_some]; rw [if_neg (by simp)]; exact congrArg some hob))
  refine codeAny_call_builtin SF.slot.plain SF.entry (@PySem.W.check_slot (model prog w) _ _ ⟨hp, g, d, t, os⟩ "object.__setattr__" "object" "__setattr__" (.ref x) [.str name tk, v] [] _ SF.kind SF.split sub (SF.args (.ref x) (.str name tk) v) ?_)
  have hmr : PySem.W.Looks (model prog w) hp (mroOf (.ref C)) (.ref C :: bm) := (PySem.W.looks_clsIn X hcd).andThen .now
  have L3 : PySem.W.Looks (model prog w) hp (storeTaker? none) none := .now
  have hcls := PySem.W.looks_clsIn (M := model prog w) X hcd
  rw [PySem.W.osa_eq, refuse_eq]
  refine wpAny_bind (wpAny_bind (I.type.at (wpAny_bind (hmr.at ?_))))
  rw [refuseLoop_ref, PySem.W.excTail_pass _ (B.pass _) _ ht]
  refine wpAny_pure (wpAny_bind (I.type.at (wpAny_bind ((PySem.W.looks_findIn X ha).at (wpAny_bind (L3.at ?_))))))
  show wpAny _ _ (storeInOwnDict (.ref x) (.ref C) (.str name tk) name v false) _ _ _
  unfold storeInOwnDict ownDictForStores
  repeat (first | with_reducible refine PySem.HandSPX.store_in_new ?_ ?_ | with_reducible refine wpAny_loadPart_at hx ?_ | with_reducible refine hcls.at ?_ | wp_step)
  · exact ⟨_, #[], _, (Heap.get?_update_ne _ _ _ _ hxs.symm).trans (Heap.get?_push_at rfl rfl), rfl, fun e he => absurd he (by simp), fun _ => rfl⟩
  · intro h' tk' hn' hs
    have hx₁ : (hp.push { cls := .type "dict", data := .dict #[] }).get? x = some { cls := .ref C, data := .fields fv } := Heap.get?_push_of_some _ hx
    refine hq h' tk' hp.objs.size (fun b o hb ho => ?_) (Nat.le_refl _) hxs.symm ?_ hn'
    · exact (hs.2 b (Nat.ne_of_lt (Heap.lt_size ho))).trans ((Heap.get?_update_ne _ _ _ _ hb).trans (Heap.get?_push_of_some _ ho))
    · exact (hs.2 x hxs).trans (Heap.get?_update_self _ hx₁ rfl)
end
end DE
set_option Elab.async false
set_option linter.all false
set_option maxRecDepth 100000
set_option maxHeartbeats 4000000
namespace DE
open PySem PySem.Spec PyProof.Rows L2
structure Ini1 (K : PySem.W.Frag) (g : Addr) (f : Str) : Prop where
  fn : ∃ (nm qn : Str) (more : _) (od : Option Addr) (doc pm kV : Value) (an : Option Addr) (cdv ct : Value) (osl : Array (Option Value)) (p1 p2 q1 q2 q3 q4 : Pos),
    K.lookup g = some ⟨.type "function", od, .func (PySem.W.fnOf nm qn ⟨[], [⟨"self", none, p1⟩, ⟨f, none, p2⟩], none, [], [], none, []⟩ [.Assign [.Attribute (.Name "self" q1) f q2] (.Name f q3) q4] ⟨.function, [("self", .local), (f, .local)], false, false, more⟩ .none kV doc pm an cdv ct), osl⟩ ∧ PySem.W.codeIn K cdv qn = true
theorem ini1_ok {K : PySem.W.Frag} {g : Addr} {f : Str} (h : ini1B K g f = true) : Ini1 K g f := by
  unfold ini1B at h
  split at h
  · rename_i od fd osl q
    obtain ⟨n1, n2, n3, n4, n5, n6, n7, n8, n9, n10, n11, n12, n13, n14, n15⟩ := fd
    simp only [posOk, Bool.and_eq_true, decide_eq_true_eq, List.isEmpty_iff] at h
    obtain ⟨⟨⟨h1, h2⟩, h3⟩, ⟨⟨⟨h4, h5⟩, h6⟩, h7⟩, h8⟩ := h
    subst h4 h5 h6 h7
    split at h1
    · rename_i a pa b pb
      rw [Bool.and_eq_true] at h1
      have e1 := of_decide_eq_true h1.1
      have e2 := of_decide_eq_true h1.2
      subst e1 e2
      split at h2
      · rename_i s p1 v p2 u p3 p4
        simp only [Bool.and_eq_true] at h2
        have e3 := of_decide_eq_true h2.1.1
        have e4 := of_decide_eq_true h2.1.2
        have e5 := of_decide_eq_true h2.2
        subst e3 e4 e5
        rw [h3] at q
        exact ⟨_, _, _, _, _, _, _, _, _, _, _, _, _, _, _, _, _, q, h8⟩
      · cases h2
    · cases h1
  · cases h
/-- what __init__ leaves of a fresh exception at x -/
structure IniEnd (h h' : Heap) (x C dx t1 : Addr) (fs : List (Str × Value)) : Prop where
  keep : ∀ b o, b ≠ x → h.get? b = some o → h'.get? b = some o
  obj : h'.get? x = some { cls := .ref C, dict := some dx, data := .fields #[.ref t1, .none, .none, .none, .bool false, .none] }
  dbig : h.objs.size ≤ dx
  dne : dx ≠ x
  ns : h'.Ns1 dx (fun y => fs.lookup y)
abbrev xobj (C t : Addr) : Obj := { cls := .ref C, data := .fields #[.ref t, .none, .none, .none, .bool false, .none] }
theorem ldCX {M : Model} {s : Shared} {name : Str} {scope : Scope} {L a : Addr} {cd : Value} {m : Str → Option Value} {x : Str} {pos : Pos} {v : Value} {Q : Value → Shared → Prop} {A : Around} {E : Value → Shared → Prop} (hn : s.heap.Ns L m) (hv : m x = some v) (h : Q v s)
    (hk : scope.kind = .function := by rfl) (hl : (envOfC name scope L a cd).kindOf x = some .local := by rfl) (hd : (x == ("__debug__" : Str)) = false := by decide) :
    wpAny M A (eval (.Name x pos) (envOfC name scope L a cd)) Q E s := wpAny_Name (wpAny_loadName_local hk hl hn hv h) hd
theorem ns1_ext {h : Heap} {d : Addr} {m m' : Str → Option Value} (x : h.Ns1 d m) (e : ∀ y, m y = m' y) : h.Ns1 d m' := by
  have : m = m' := funext e
  rw [← this]; exact x
section
variable {prog : Program} {w : World} {A : Around} {E : Value → Shared → Prop} {R : Result → Shared → Prop} {s : Shared} {K : PySem.W.Frag} {C fI : Addr}
theorem x_init1 {f : Str} (T : ExT K C) (F : Ini1 K fI f) (hf : f = "given" ∨ f = "index" ∨ f = "number") (noN : PySem.W.findIn K (.ref C) f = some none) {x t0 : Addr} {v : Value} (X : K.In s.heap) (hlim : s.heap.NoLimit) (hx : s.heap.get? x = some (xobj C t0)) (hroom : A.depth < recursionLimit)
    (hq : ∀ h' tk dx, IniEnd s.heap h' x C dx t0 [(f, v)] → R (.ok (.ret .none)) { s with heap := h', toks := tk }) :
    codeAny (model prog w) A (.call (.ref fI) ⟨[.ref x, v], []⟩) R s := by
  obtain ⟨nm, qn, more, od, doc, pm, kV, an, cdv, ct, osl, p1, p2, q1, q2, q3, q4, ho, hcd⟩ := F.fn
  have core : ∀ f : Str, (∀ s', BindsTo s' (PySem.W.fnOf nm qn ⟨[], [⟨"self", none, p1⟩, ⟨f, none, p2⟩], none, [], [], none, []⟩ [.Assign [.Attribute (.Name "self" q1) f q2] (.Name f q3) q4] ⟨.function, [("self", .local), (f, .local)], false, false, more⟩ .none kV doc pm an cdv ct) ⟨[.ref x, v], []⟩ [("self", .ref x), (f, v)]) → True := fun _ _ => trivial
  rcases hf with rfl | rfl | rfl
  all_goals
    refine Att.call_fn (binds := [("self", .ref x), (_, v)]) X hlim ho hcd hroom (BindsTo.of_eq (by first | rfl | with_unfolding_all rfl)) (by first | rfl | decide | with_unfolding_all rfl) (fun s₁ IC => ?_) rfl rfl rfl
    obtain ⟨h₁, tk₁, rfl⟩ := IC.toInCall.same
    have k : ∀ b o, s.heap.get? b = some o → h₁.get? b = some o := IC.toInCall.keep
    have hn := IC.toInCall.ns
    have hxL : s.heap.objs.size ≠ x := Nat.ne_of_gt (Heap.lt_size hx)
    have X₁ : K.In h₁ := X.keeps k
    have hx₁ := k _ _ hx
    show wpAny _ _ (execs _ _) _ _ _
    refine wpAny_execs_cons (plainObj_wpAny_Assign_Attribute ?_)
    refine ldCX (v := v) hn (by first | rfl | with_unfolding_all rfl | kernel_rfl) (ldCX (v := .ref x) hn (by first | rfl | with_unfolding_all rfl | kernel_rfl) ?_)
    refine PySem.W.set_plain X₁ (ox := xobj C t0) (od := none) ⟨hx₁, rfl, rfl, trivial⟩ T.sa ?_
    refine xosa T X₁ hx₁ noN (fun h₃ tk₃ dx k₃ dn dne hx₃ hn₃ => ?_)
    show wpAny _ _ (execs _ _) _ _ _
    have z : s.heap.objs.size < h₁.objs.size := hn.lt
    refine wpAny_execs_nil (hq h₃ tk₃ dx ⟨fun b o hb e => k₃ b o hb (k b o e), hx₃, Nat.le_of_lt (Nat.lt_of_lt_of_le z dn), dne, ns1_ext hn₃ fun y => ?_⟩)
    rw [List.lookup_cons]
    split <;> rename_i q
    · subst q; simp
    · have : (y == _) = false := beq_eq_false_iff_ne.mpr q
      rw [this]; rfl
/-- a made exception -/
structure XMade (h h' : Heap) (e C d : Addr) (fs : List (Str × Value)) : Prop where
  keep : ∀ b o, h.get? b = some o → h'.get? b = some o
  new : h.objs.size ≤ e
  obj : ∃ oe vs, h'.get? e = some oe ∧ oe.cls = .ref C ∧ oe.dict = some d ∧ oe.data = .fields vs ∧ vs[1]? = some .none
  dbig : h.objs.size ≤ d
  dne : d ≠ e
  ns : h'.Ns1 d (fun y => fs.lookup y)
/-- C(us), by what C's __init__ does -/
theorem x_made (T : ExT K C) (iC : PySem.W.findIn K (.ref C) "__init__" = some (some (.ref fI))) (tC : PySem.W.typeIn K (.ref fI) = some (.type "function")) {us : List Value} {fs : List (Str × Value)} (hl : us.length ≤ 10) (X : K.In s.heap) (hlim : s.heap.NoLimit) (hroom : A.depth + 1 < recursionLimit)
    (ini : ∀ (A' : Around) (s' : Shared) (R' : Result → Shared → Prop) (x t0 : Addr), K.In s'.heap → s'.heap.NoLimit → s'.heap.get? x = some (xobj C t0) → A'.depth < recursionLimit → (∀ h' tk dx, IniEnd s'.heap h' x C dx t0 fs → R' (.ok (.ret .none)) { s' with heap := h', toks := tk }) → codeAny (model prog w) A' (.call (.ref fI) ⟨.ref x :: us, []⟩) R' s')
    (hq : ∀ h' tk e d, XMade s.heap h' e C d fs → R (.ok (.ret (.ref e))) { s with heap := h', toks := tk }) :
    codeAny (model prog w) A (.call (.ref C) ⟨us, []⟩) R s := by
  obtain ⟨bmB, newId, nm, N, qn, bs, bm, sn, sub0, ab, col, dd, k0, k1, k2, k3, k5, B, ho, ht⟩ := T.obj
  obtain ⟨B0, initId, FB⟩ := B.ex
  obtain ⟨hp, g, dr, tk, os⟩ := s
  have k : ∀ b o, hp.get? b = some o → ((hp.push (PySem.W.kdv_tup us)).push (PySem.HandSPX.excO C hp.objs.size)).get? b = some o := fun b o e => Heap.get?_push_of_some _ (Heap.get?_push_of_some _ e)
  have hget : ((hp.push (PySem.W.kdv_tup us)).push (PySem.HandSPX.excO C hp.objs.size)).get? (hp.objs.size + 1) = some (PySem.HandSPX.excO C hp.objs.size) := by heap_get
  refine PySem.HandSPX.call_own FB (fun Y => PySem.W.excTail_contains Y bm ht) (X _ _ ho) (PySem.W.looks_findIn X iC) (fun self => PySem.W.bind_fn X self tC) (by rw [sizeLine_eq]; omega) ?_
  refine ini _ ⟨(hp.push (PySem.W.kdv_tup us)).push (PySem.HandSPX.excO C hp.objs.size), g, dr, tk, os⟩ _ (hp.objs.size + 1) hp.objs.size (X.keeps k) (hlim.keeps k) hget ?_ fun h' tk' dx ⟨k', hx, dn, dne, hns⟩ => ?_
  · show A.depth + 1 < recursionLimit
    exact hroom
  · have old : ∀ b o, hp.get? b = some o → h'.get? b = some o := fun b o e => k' b o (Nat.ne_of_lt (Nat.lt_succ_of_lt (Heap.lt_size e))) (k b o e)
    have z : hp.objs.size + 1 + 1 ≤ dx := by
      first
        | (simpa only [Heap.size_push] using dn)
        | exact dn
        | (have q := dn; rw [Heap.size_push, Heap.size_push] at q; exact q)
    exact ⟨rfl, hq h' tk' (hp.objs.size + 1) dx ⟨old, Nat.le_succ _, ⟨_, _, hx, rfl, rfl, rfl, rfl⟩, Nat.le_trans (Nat.le_trans (Nat.le_succ _) (Nat.le_succ _)) z, dne, hns⟩⟩
end
theorem relO_all : ∀ {fs : List (Str × V)} {us : List (Str × Value)}, Paired (fun p q => p.1 = q.1 ∧ RelV p.2 q.2) fs us → ∀ f, RelO (fs.lookup f) (us.lookup f)
  | _, _, .nil, f => trivial
  | (a, v) :: fs, (b, u) :: us, .cons h t, f => by
    obtain ⟨e, r⟩ := h
    have e : a = b := e
    subst e
    rw [List.lookup_cons, List.lookup_cons]
    cases (f == a) with
    | true => exact r
    | false => exact relO_all t f
section
variable {X : Cx} {C fI : Addr} {pins : List (Addr × Obj)} {σ : L2.St} {H : Hp}
theorem mk_made {s : Shared} {Q : XK} {us : List Value} {fsV : List (Str × V)} {fs : List (Str × Value)} (T : ExT X.K C) (iC : PySem.W.findIn X.K (.ref C) "__init__" = some (some (.ref fI))) (tC : PySem.W.typeIn X.K (.ref fI) = some (.type "function")) (hl : us.length ≤ 10) (rv : Paired (fun (p : Str × V) (q : Str × Value) => p.1 = q.1 ∧ RelV p.2 q.2) fsV fs)
    (ini : ∀ (A' : Around) (s' : Shared) (R' : Result → Shared → Prop) (x t0 : Addr), X.K.In s'.heap → s'.heap.NoLimit → s'.heap.get? x = some (xobj C t0) → A'.depth < recursionLimit → (∀ h' tk dx, IniEnd s'.heap h' x C dx t0 fs → R' (.ok (.ret .none)) { s' with heap := h', toks := tk }) → codeAny (model X.prog X.w) A' (.call (.ref fI) ⟨.ref x :: us, []⟩) R' s')
    (hroom : X.A.depth + 1 < recursionLimit) (I : Inv X pins σ H s) (q : ∀ d, H d = none → Q (.ref C) (some d) (upd H d (.xd fsV))) : wpAny (model X.prog X.w) X.A (call (.ref C) us) (MkP X pins σ Q) X.xe s := by
  have hlim := I.nolimit
  have KI := I.kIn
  obtain ⟨hp, g, dr, tk, os⟩ := s
  refine wpAny_call (x_made T iC tC hl KI hlim hroom ini fun h' tk' e d M => ?_)
  show MkP X pins σ Q (.ref e) ⟨h', g, dr, tk', os⟩
  obtain ⟨oe, fv, hoe, hc, hd, hdat, h1⟩ := M.obj
  have hns := M.ns
  obtain ⟨G', g1, g2⟩ := restrict h' fun b => decide (b ≠ e)
  have gk : ∀ b, b ≠ e → G'.get? b = h'.get? b := fun b hb => g1 b (decide_eq_true hb)
  have ge : G'.get? e = none := g2 e (by simp)
  have old : ∀ b o, hp.get? b = some o → G'.get? b = some o := fun b o q => (gk b (Nat.ne_of_lt (Nat.lt_of_lt_of_le (Heap.lt_size q) M.new))).trans (M.keep b o q)
  have ob : ObjOk X.prog X.w (upd H d (.xd fsV)) G' d (.xd fsV) := ⟨_, hns.at (fun o q => (gk d M.dne).trans q), fun f => relO_all rv f⟩
  have J : Inv X pins σ (upd H d (.xd fsV)) ⟨G', g, dr, tk', os⟩ := I.laid (t' := tk') old M.dbig ob
  refine ⟨e, oe, fv, ⟨G', g, dr, tk', os⟩, _, .ref C, some d, rfl, J, fun b o q => ?_, ge, hoe, ⟨hc, hd⟩, hdat, h1, ?_, rfl, I.bare, T.raises, q d (I.hok.fresh M.dbig)⟩
  · by_cases hb : b = e
    · have q' : G'.get? b = some o := q
      rw [hb, ge] at q'; cases q'
    · exact (gk b hb).symm.trans q
  · rw [upd_ne (Ne.symm M.dne)]
    exact I.hok.fresh M.new
/-- C(e), C's __init__ as ini1B says -/
theorem pmk_x1 {x f : Str} {a : Expr} {ta : TE} {p pos : Pos} (T : ExT X.K C) (F : Ini1 X.K fI f) (hf : f = "given" ∨ f = "index" ∨ f = "number") (noN : PySem.W.findIn X.K (.ref C) f = some none) (iC : PySem.W.findIn X.K (.ref C) "__init__" = some (some (.ref fI))) (tC : PySem.W.typeIn X.K (.ref fI) = some (.type "function"))
    (hg : Gl X x) (hm : X.mg x = some (.ref C)) (hroom : X.A.depth + 1 < recursionLimit) (ha : PE X a ta) (hdb : (x == ("__debug__" : Str)) = false) (hs : starEach [a] X.env = (false, eval a X.env) :: starEach [] X.env) :
    PMk X (.Call (.Name x p) [a] [] pos) (fun σ H Q => ta σ H fun v H1 => ∀ d, H1 d = none → Q (.ref C) (some d) (upd H1 d (.xd [(f, v)]))) := by
  intro pins s σ H Q I h
  refine wpAny_Call_Name_kw (ld_glob I hg hm ?_ hdb)
  refine PySem.W.callWith_K (h₀ := X.base) I.ok.mod.kin T.kC ?_ hs (by rfl)
  rw [hs]
  show wpAny _ _ (spliced ((false, eval a X.env) :: backTo pos (starEach [] X.env))) _ _ s
  refine Calls.spliced_cons (thn (ha.run pins s σ H _ I h) fun u s1 ⟨v, H1, I1, r1, q1⟩ => ?_)
  refine Calls.spliced_nil ⟨I1.kIn, ?_⟩
  show wpAny _ _ (call (.ref C) [u]) _ _ _
  exact mk_made (fsV := [(f, v)]) (fs := [(f, u)]) T iC tC (by simp) (.cons ⟨rfl, r1⟩ .nil) (fun A' s' R' x t0 h1 h2 h3 h4 h5 => x_init1 T F hf noN h1 h2 h3 h4 h5) hroom I1 q1
end
end DE
set_option Elab.async false
set_option linter.all false
set_option maxRecDepth 100000
set_option maxHeartbeats 4000000
namespace DE
open PySem PySem.Spec PyProof.Rows L2
section
variable {X : Cx} {C : Addr} {bmB : List Value} {B newId initId : String}
/-- C() -/
theorem pmk_x0 {x : Str} {p pos : Pos} (F : ExcBaseFacts B newId initId bmB) (q : PySem.W.excIn X.K C bmB newId = true) (T : ExT X.K C) (hg : Gl X x) (hm : X.mg x = some (.ref C)) (hdb : (x == ("__debug__" : Str)) = false) :
    PMk X (.Call (.Name x p) [] [] pos) (fun _ H Q => Q (.ref C) none H) := by
  intro pins s σ H Q I h
  refine wpAny_Call_Name_kw (ld_glob I hg hm ?_ hdb)
  refine PySem.W.callWith_K0 I.kIn T.kC ?_
  show wpAny _ _ (call (.ref C) []) _ _ _
  obtain ⟨bm, N, nm, qn, bs, hdct, sn, sub, ab, col, dd, k0, k1, k2, k3, k5, mN, hC, hN, hni, TT⟩ := exc_obj I.kIn q
  refine wpAny_call_exc_subT F TT hC hN hni (fun h' e hm => ?_) (by show 0 ≤ sizeLine; omega)
  exact mk_of I hm T.raises h (I.hok.gone hm.new)
end
end DE
set_option Elab.async false
set_option linter.all false
set_option maxRecDepth 100000
set_option maxHeartbeats 4000000
namespace DE
open PySem PySem.Spec PyProof.Rows L2
open PySem.HandSPX (FlyingZ HeldZ TracedZ)
/-- the test of an except clause: mt tells by the exception's class whether it is taken -/
def HTst (X : Cx) (te : Expr) (mt : Value → Option Bool) : Prop := ∀ (a : Addr) (oe : Obj) (pn : List (Addr × Obj)) (σ : L2.St) (H : Hp) (s : Shared) (cls : Value) (b : Bool) (Q : Bool → Shared → Prop) (E : Value → Shared → Prop), Inv (X.suite a ((a, oe) :: pn)) [] σ H s → oe.cls = cls → mt cls = some b →
  (∀ h', (∀ q o, s.heap.get? q = some o → h'.get? q = some o) → Q b { s with heap := h' }) → wpAny (model X.prog X.w) (X.A.mark (some (.ref a))) (eval te X.env) (fun c s1 => wpAny (model X.prog X.w) (X.A.mark (some (.ref a))) (excMatches (.ref a) c) Q E s1) E s
/-- a clause: its test, the slot of its name, its suite -/
structure Hn where
  mt : Value → Option Bool
  sl : Option Nat
  ts : Addr → Value → Option Addr → TS
inductive HdsX (X : Cx) : List ExceptHandler → List Hn → Prop
  | nil : HdsX X [] []
  | cons {te : Expr} {mt : Value → Option Bool} {ts : Addr → Value → Option Addr → TS} {b₀ : Stmt} {suite : List Stmt} {pos' : Pos} {hds : List ExceptHandler} {l : List Hn} (hc : HTst X te mt)
      (hsu : ∀ (a : Addr) (oe : Obj) (cls : Value) (d : Option Addr) (pn : List (Addr × Obj)), Zc cls d oe → (∃ vs, oe.data = .fields vs) → PSs (X.suite a ((a, oe) :: pn)) (b₀ :: suite) (ts a cls d)) (r : HdsX X hds l) :
      HdsX X (.ExceptHandler (some te) none (b₀ :: suite) pos' :: hds) (⟨mt, none, ts⟩ :: l)
  | as {te : Expr} {mt : Value → Option Bool} {ts : Addr → Value → Option Addr → TS} {n : Str} {i : Nat} {b₀ : Stmt} {suite : List Stmt} {pos' : Pos} {hds : List ExceptHandler} {l : List Hn} (hc : HTst X te mt) (hN : X.N.Nodup) (hi : X.N[i]? = some n) (hln : X.env.kindOf n = some .local)
      (hsu : ∀ (a : Addr) (oe : Obj) (cls : Value) (d : Option Addr) (pn : List (Addr × Obj)), Zc cls d oe → (∃ vs, oe.data = .fields vs) → PSs (X.suite a ((a, oe) :: pn)) (b₀ :: suite) (ts a cls d)) (r : HdsX X hds l) :
      HdsX X (.ExceptHandler (some te) (some n) (b₀ :: suite) pos' :: hds) (⟨mt, some i, ts⟩ :: l)
end DE
set_option Elab.async false
set_option linter.all false
set_option maxRecDepth 100000
set_option maxHeartbeats 4000000
namespace DE
open PySem PySem.Spec PyProof.Rows L2
end DE
set_option Elab.async false
set_option linter.all false
set_option maxRecDepth 100000
set_option maxHeartbeats 4000000
namespace DE
open PySem PySem.Spec PyProof.Rows L2
def fnDX (n : Nat) (b : EvXS) : FnX := fun ds S => match b (rho0 n ds, S) with
  | some (.out (.rt d), z) => some (.ok d, z.2)
  | some (.out .nx, z) => some (.ok .non, z.2)
  | some (.ex c fs, z) => some (.ex c fs, z.2)
  | _ => none
end DE
set_option Elab.async false
set_option linter.all false
set_option maxRecDepth 100000
set_option maxHeartbeats 4000000
namespace DE
open PySem PySem.Spec PyProof.Rows L2
/-- an exception class with one field -/
structure XcN1 (G : GX) (x : Str) (c k : Nat) : Prop where
  ex : ∃ (C fI : Addr) (f : Str), G.mg x = some (.ref C) ∧ G.W.cls c = some C ∧ ExT G.W.K C ∧ Ini1 G.W.K fI f ∧ (f = "given" ∨ f = "index" ∨ f = "number") ∧ PySem.W.findIn G.W.K (.ref C) "__init__" = some (some (.ref fI)) ∧ PySem.W.typeIn G.W.K (.ref fI) = some (.type "function") ∧ NoAttr G.W.K C f ∧ k < G.W.nn ∧ G.W.nm k = f
/-- .. with none -/
structure XcN0 (G : GX) (x : Str) (c : Nat) : Prop where
  ex : ∃ (C : Addr) (bmB : List Value) (B newId initId : String), G.mg x = some (.ref C) ∧ G.W.cls c = some C ∧ ExT G.W.K C ∧ ExcBaseFacts B newId initId bmB ∧ PySem.W.excIn G.W.K C bmB newId = true
def zRaise1 (c k : Nat) (f : Ev) : EvXS := fun z => (f z).bind fun x => if x.1.plain then some (.ex c [(k, x.1)], x.2) else none
def XS.raise1 (x : Str) (c k : Nat) (a : E) : XS where
  sh := fun N sc st => match st with
    | .Raise (some (.Call (.Name y _) [v] [] _)) none _ => decide (y = x) && glb sc y && nodbg y && notStar v && chkE N sc a v
    | _ => false
  sem := zRaise1 c k (evE a)
  need := fun G lv => XcN1 G x c k ∧ needE G lv a
  ok := fun {G lv} nd N sc X fx hk hf hp st h B wx tk => by
    split at h
    · rename_i y p v pos pos2
      simp only [Bool.and_eq_true, decide_eq_true_eq] at h
      obtain ⟨⟨⟨⟨rfl, h1⟩, h2⟩, h3⟩, h4⟩ := h
      obtain ⟨⟨C, fI, f, hm, hc, T, F, hfi, iC, tC, na, kn, nm⟩, ne⟩ := nd
      have hsc : X.env.scope = sc := fx.sc
      have hK : X.K = G.W.K := fx.k
      have hg : Gl X y := show X.env.scope.names.lookup _ = _ by rw [hsc]; exact glb_ok h1
      have pa : PE X v (tev G.W B (evE a)) := PE.nox (sE a h4 ne fx B)
      have rm : Room lv X.A := fx.room
      refine ps_mono (ps_raise fx.calm tk (pmk_x1 (hK ▸ T) (hK ▸ F) hfi (hK ▸ na) (hK ▸ iC) (hK ▸ tC) hg (by have : X.mg = _ := fx.mg; rw [this]; exact hm) (by have := rm.dp; omega) pa (nodbg_ok h2).1 (star_ok h3))) fun D σ H q => ?_
      obtain ⟨ι, z, fl, z', zr, e1, k1⟩ := q
      unfold zRaise1 at e1
      cases ea : evE a z with
      | none => rw [ea] at e1; cases e1
      | some xx =>
        rw [ea, Option.bind_some] at e1
        split at e1
        · rename_i hpl
          cases e1
          refine ⟨ι, z, xx.1, xx.2, zr, ea, fun vv ι1 H1 kp r1 zr1 d hd => ?_⟩
          have ka : Kp ι1 H1 ι1 (upd H1 d (.xd [(f, vv)])) := Kp.alloc hd
          refine k1 σ ι1 _ (kp.trans ka) (zr1.alloc hd) (.ref C) (some d) ⟨C, hc, rfl, .inr ⟨d, _, rfl, upd_same, ?_⟩⟩
          unfold RepF
          exact ⟨vv, [], by rw [nm], kn, by rw [nm]; exact na, hpl, (r1.rep hpl).kp ka hpl, by unfold RepF; rfl⟩
        · cases e1
    · cases h
def XS.raise0 (x : Str) (c : Nat) : XS where
  sh := fun N sc st => match st with
    | .Raise (some (.Call (.Name y _) [] [] _)) none _ => decide (y = x) && glb sc y && nodbg y
    | _ => false
  sem := fun z => some (.ex c [], z)
  need := fun G lv => XcN0 G x c
  ok := fun {G lv} nd N sc X fx hk hf hp st h B wx tk => by
    split at h
    · rename_i y p pos pos2
      simp only [Bool.and_eq_true, decide_eq_true_eq] at h
      obtain ⟨⟨rfl, h1⟩, h2⟩ := h
      obtain ⟨C, bmB, B0, newId, initId, hm, hc, T, F, q⟩ := nd.ex
      have hsc : X.env.scope = sc := fx.sc
      have hK : X.K = G.W.K := fx.k
      have hg : Gl X y := show X.env.scope.names.lookup _ = _ by rw [hsc]; exact glb_ok h1
      refine ps_mono (ps_raise fx.calm tk (pmk_x0 F (hK ▸ q) (hK ▸ T) hg (by have : X.mg = _ := fx.mg; rw [this]; exact hm) (nodbg_ok h2).1)) fun D σ H q => ?_
      obtain ⟨ι, z, fl, z', zr, e1, k1⟩ := q
      cases e1
      exact k1 σ ι H .refl zr (.ref C) none ⟨C, hc, rfl, .inl ⟨rfl, rfl⟩⟩
    · cases h
def endMkX (n : Nat) (fs : List (Nat × D)) (S : Store) : Option Store := if nohF n fs = true ∧ (S.take n).all (nohM n) = true ∧ n ≤ S.length then some (S.take n) else none
def mkX (c : Nat) (g : FnX) (ds : List D) (z : Z) : Option (XR × Z) := (g (.han z.2.length :: ds) (z.2 ++ [.ins c []])).bind fun r => match r.1 with
  | .ok .non => (endMk z.2.length c r.2).map fun q => (.ok q.1, (z.1, q.2))
  | .ok _ => none
  | .ex c' fs => (endMkX z.2.length fs r.2).map fun S => (.ex c' fs, (z.1, S))
/-- what the new instance's __init__ is asked -/
theorem mk_spDX {W : Wd} {B : Bs} {ι ι1 : List Addr} {H H1 : Hp} {σ : L2.St} {z1 : Z} {Q : VK} {wx : WX} {c n : Nat} {g : FnX} {ds : List D} {us : List V} {r : XR} {z' : Z} {C a dx : Addr} (hc : W.cls c = some C) (cl : Cls W.K C) (k1 : Kp ι H ι1 H1) (zr1 : ZR W B ι1 H1 σ z1) (hn : ds.length = n) (hl : Paired (Rep W ι1 H1) ds us) (e1 : mkX c g ds z1 = some (r, z'))
    (k : XrK (fun d => ∀ v ι' H', Kp ι H ι' H' → XRep W ι' H' σ d v → ZR W B ι' H' σ z' → Q v H') (fun c fs => ∀ cls d ι' H', Kp ι H ι' H' → XcRep W ι' H' c fs cls d → ZR W B ι' H' σ z' → wx cls d σ H') r)
    (ha : H1 a = none) (hdx : H1 dx = none) (ne : dx ≠ a) : spDX W (n + 1) g (.ref a :: us) (upd (upd H1 dx (.own a)) a (.ins C dx [])) (fun v H2 => v = .non ∧ Q (.ref a) H2) (WE wx σ) := by
  have hH : ∀ b o, H1 b = some o → (upd (upd H1 dx (.own a)) a (.ins C dx [])) b = some o := fun b o eb => by
    rw [upd_ne (fun q => by rw [q, ha] at eb; cases eb), upd_ne (fun q => by rw [q, hdx] at eb; cases eb)]; exact eb
  have hni : a ∉ ι1 := fun q => by obtain ⟨o, eo, _⟩ := zr1.st.mem q; rw [ha] at eo; cases eo
  have kB : Kp ι1 H1 (ι1 ++ [a]) (upd (upd H1 dx (.own a)) a (.ins C dx [])) := by
    refine ⟨List.prefix_append _ _, fun b hb nb C' dx' fs' e' => ?_, fun b o eb _ => hH b o eb, fun b C' dx' fs' eb _ => hH b _ eb, fun b eb => ?_⟩
    · rcases List.mem_append.mp hb with q | q
      · exact absurd q nb
      · rw [List.mem_singleton] at q; subst q
        rw [ha] at e'; cases e'
    · cases q : H1 b with
      | none => rfl
      | some o => rw [hH b o q] at eb; cases eb
  have st1 : StRep W (ι1 ++ [a]) (upd (upd H1 dx (.own a)) a (.ins C dx [])) (z1.2 ++ [.ins c []]) := by
    refine ⟨zr1.st.tb.same hH, by simp [zr1.st.len], ?_, fun m mo b e1 e2 => ?_⟩
    · rw [List.nodup_append]
      refine ⟨zr1.st.nd, by simp, fun b hb d hd => ?_⟩
      rw [List.mem_singleton] at hd; subst hd
      rintro rfl; exact hni hb
    · by_cases hm : m < z1.2.length
      · rw [List.getElem?_append_left hm] at e1
        rw [List.getElem?_append_left (by rw [← zr1.st.len]; exact hm)] at e2
        exact (zr1.st.at_ m mo b e1 e2).kp kB fun o eo => hH b o eo
      · have hm' : z1.2.length ≤ m := by omega
        rw [List.getElem?_append_right hm'] at e1
        rw [List.getElem?_append_right (by rw [← zr1.st.len]; exact hm'), ← zr1.st.len] at e2
        cases q : m - z1.2.length with
        | zero =>
          rw [q] at e1 e2; simp at e1 e2; subst e1; subst e2
          exact ⟨C, dx, [], hc, upd_same, cl, by unfold RepF; rfl⟩
        | succ j => rw [q] at e1; simp at e1
  have hself : Rep W (ι1 ++ [a]) (upd (upd H1 dx (.own a)) a (.ins C dx [])) (.han z1.2.length) (.ref a) := by
    unfold Rep
    exact ⟨a, by rw [zr1.st.len]; simp, rfl⟩
  have hargs : Paired (Rep W (ι1 ++ [a]) (upd (upd H1 dx (.own a)) a (.ins C dx []))) ds us := by
    refine Paired.mapP hl fun p q rp => ?_
    cases p with
    | brw l =>
      unfold Rep at rp ⊢
      obtain ⟨h1, b, xs, h2, h3, h4, h5⟩ := rp
      refine ⟨h1, b, xs, h2, hH b _ h3, ?_, h5.kp kB⟩
      simp only [List.mem_append, List.mem_singleton, not_or]
      exact ⟨h4, fun qq => by rw [qq, ha] at h3; cases h3⟩
    | bor i => unfold Rep at rp; exact rp.elim
    | _ => exact rp.kp kB rfl
  unfold mkX at e1
  cases e3 : g (.han z1.2.length :: ds) (z1.2 ++ [.ins c []]) with
  | none => rw [e3] at e1; cases e1
  | some rr =>
    rw [e3, Option.bind_some] at e1
    obtain ⟨r0, S⟩ := rr
    refine ⟨ι1 ++ [a], z1.2 ++ [.ins c []], .han z1.2.length :: ds, r0, S, by rw [List.length_cons, hn], .cons hself hargs, st1, e3, ?_⟩
    -- back among the cells that were
    have back : ∀ {ι2 : List Addr} {H2 : Hp} {S2 : Store}, CKp (ι1 ++ [a]) (upd (upd H1 dx (.own a)) a (.ins C dx [])) ι2 H2 → CKp ι1 H1 ι1 H2 := fun {ι2 H2 S2} c2 => ⟨List.prefix_refl _, fun b hb nb => absurd hb nb, fun b o eb nb => by
      refine c2.keep b o (hH b o eb) ?_
      simp only [List.mem_append, List.mem_singleton, not_or]
      exact ⟨nb, fun q => by rw [q, ha] at eb; cases eb⟩⟩
    have cut : ∀ {ι2 : List Addr} {H2 : Hp} {τ : List Addr}, StRep W ι2 H2 S → ι2 = ι1 ++ τ → (S.take z1.2.length).all (nohM z1.2.length) = true → z1.2.length ≤ S.length → StRep W ι1 H2 (S.take z1.2.length) := fun {ι2 H2 τ} st2 hι nm hlen => by
      subst hι
      rw [zr1.st.len] at nm
      refine ⟨st2.tb, by rw [List.length_take, ← zr1.st.len]; omega, zr1.st.nd, fun m mo b e1 e2 => ?_⟩
      have hm : m < z1.2.length := by
        have := (List.getElem?_eq_some_iff.mp e1).1
        rw [List.length_take] at this
        omega
      have hmem : mo ∈ S.take z1.2.length := List.mem_of_getElem? e1
      rw [List.getElem?_take_of_lt hm] at e1
      refine (st2.at_ m mo b e1 (by rw [List.getElem?_append_left (by rw [← zr1.st.len]; exact hm)]; exact e2)).dropT ?_
      rw [List.all_eq_true] at nm
      exact nm mo (by rw [← zr1.st.len]; exact hmem)
    cases r0 with
    | ok d0 =>
      intro v ι2 H2 c2 st2 _ rv
      cases d0 with
      | non =>
        unfold Rep at rv
        refine ⟨rv, ?_⟩
        replace e1 : (endMk z1.2.length c S).map (fun q => ((.ok q.1 : XR), (z1.1, q.2))) = some (r, z') := e1
        cases e4 : endMk z1.2.length c S with
        | none => rw [e4] at e1; cases e1
        | some q =>
          rw [e4] at e1
          cases e1
          unfold endMk at e4
          split at e4
          · rename_i c' fs' hd
            split at e4
            · rename_i hh
              cases e4
              obtain ⟨rfl, nf, nm⟩ := hh
              have hlen : S.length = z1.2.length + 1 := by
                have h1 := congrArg List.length hd
                rw [List.length_drop] at h1
                simp at h1
                omega
              have hι : ι2 = ι1 ++ [a] := by
                obtain ⟨t, ht⟩ := c2.pre
                have h1 := st2.len
                rw [← ht, hlen, zr1.st.len] at h1
                simp at h1
                rw [← ht, h1, List.append_nil]
              have hget : S[z1.2.length]? = some (.ins c' fs') := by
                have := congrArg List.head? hd
                rw [List.head?_drop] at this
                simpa using this
              obtain ⟨C', dx', fvs, hc', hh', cl', rf⟩ := st2.at_ _ _ a hget (by rw [hι, zr1.st.len]; simp)
              rw [hc] at hc'; cases hc'
              have ck : CKp ι1 H1 ι1 H2 := back (S2 := S) c2
              have st3 := cut st2 hι nm (by omega)
              have zr3 := zr1.call ck st3
              refine k (.ref a) ι1 H2 (k1.trans (ck.kp st3 fun b hb => zr1.st.mem hb)) ⟨rfl, ?_⟩ zr3
              unfold Rep
              rw [hι] at rf
              exact ⟨a, C, dx', fvs, rfl, hc, hh', hni, cl, RepF.dropc fs' rf (by rw [← zr1.st.len]; exact nf)⟩
            · cases e4
          · cases e4
      | _ => cases e1
    | ex c' fs' =>
      intro cls d ι2 H2 c2 st2 xc
      replace e1 : (endMkX z1.2.length fs' S).map (fun q => ((.ex c' fs' : XR), (z1.1, q))) = some (r, z') := e1
      cases e4 : endMkX z1.2.length fs' S with
      | none => rw [e4] at e1; cases e1
      | some S2 =>
        rw [e4] at e1
        cases e1
        unfold endMkX at e4
        split at e4
        · rename_i hh
          cases e4
          obtain ⟨nf, nm, hlen⟩ := hh
          obtain ⟨t, ht⟩ := c2.pre
          have hι : ι2 = ι1 ++ (a :: t) := by rw [← ht]; simp
          have ck : CKp ι1 H1 ι1 H2 := back (S2 := S) c2
          have st3 := cut st2 hι nm hlen
          have zr3 := zr1.call ck st3
          rw [hι] at xc
          exact k cls d ι1 H2 (k1.trans (ck.kp st3 fun b hb => zr1.st.mem hb)) (xc.dropT (by rw [← zr1.st.len]; exact nf)) zr3
        · cases e4
section
variable {X : Cx} {k : Nat} {f C : Addr} {fd : FuncData} {ps : List Str} {sp : Sp} {wx : WX}
theorem run_makeGX {pins : List (Addr × Obj)} {σ : L2.St} {H : Hp} {s : Shared} {Q : VK} {us bs : List Value} {kw : List (Str × Value)} {vs : List V} (tk : Takes X wx) (M : Mk X.K C f) (F : FnGX X.prog X.w X.K X.mg X.base k f fd ps sp) (hr : Room (k + 1) X.A) (hgd : X.A.guards = some [])
    (hb : ∀ (s' : Shared) (self : Value), X.K.In s'.heap → BindsTo s' fd ⟨self :: us, kw⟩ (ps.zip (self :: bs))) (I : Inv X pins σ H s) (r : Vals vs bs)
    (h : ∀ x dx, H x = none → H dx = none → dx ≠ x → sp (.ref x :: vs) (upd (upd H dx (.own x)) x (.ins C dx [])) (fun v H2 => v = .non ∧ Q (.ref x) H2) (WE wx σ)) :
    codeAny (model X.prog X.w) X.A (.call (.ref C) ⟨us, kw⟩) (fun r s' => match r with | .ok (.ret u) => EP X pins σ Q u s' | .ok _ => False | .error e => X.xe e s') s := by
  have hq := h (s.heap.objs.size + 1) s.heap.objs.size (I.hok.fresh (Nat.le_succ _)) (I.hok.fresh (Nat.le_refl _)) (Nat.ne_of_lt (Nat.lt_succ_self _))
  have I2 := Inv.made (C := C) I
  have r2 : Vals (V.ref (s.heap.objs.size + 1) :: vs) (Value.ref (s.heap.objs.size + 1) :: bs) := .cons rfl r
  have hB := hb _ (Value.ref (s.heap.objs.size + 1)) I2.kIn
  refine make_map (f := f) I.kIn M.makes M.init (beq_iff_eq.mp M.fn) (codeAny_mono (F.run _ X.stack _ _ ⟨Value.ref (s.heap.objs.size + 1) :: us, kw⟩ (Value.ref (s.heap.objs.size + 1) :: bs) _ _ (WE wx σ) (hr.make C us kw)
    ?_ (I2.env0.make C us kw) hB r2 hq) fun r s' hq' => ?_)
  · simp [Around.under, hgd, pushGuards, Code.guards, Code.isGuard, guardIds]
  · cases r with
    | error e => exact passAt tk σ pins _ _ e s' I2 hq'
    | ok fl =>
      cases fl with
      | ret u =>
        obtain ⟨v, H', I3, rv, ev, q3⟩ := I2.after hq'
        subst ev
        exact ⟨rv, ⟨V.ref (s.heap.objs.size + 1), H', I3, rfl, q3⟩⟩
      | _ => exact hq'.elim
end
end DE
set_option Elab.async false
set_option linter.all false
set_option maxRecDepth 100000
set_option maxHeartbeats 4000000
namespace DE
open PySem PySem.Spec PyProof.Rows L2
structure CalKX (P : Program) (w : World) (K : PySem.W.Frag) (mg : Str → Option Value) (base : Heap) (W : Wd) (k : Nat) (x : Str) (n : Nat) (g : FnX) (ks : List Str) (pm : List Nat) : Prop where
  ex : ∃ (f : Addr) (fd : FuncData) (ps : List Str), FnGX P w K mg base k f fd ps (spDX W n g) ∧ mg x = some (.ref f) ∧ PySem.W.keepIn K (.ref f) = true ∧ ∀ (s : Shared) (ws as : List Value), ws.length = ks.length → pick ws pm = some as → BindsTo s fd ⟨[], ks.zip ws⟩ (ps.zip as)
def xCallK (n : Nat) (g : FnX) (m : Nat) (pm : List Nat) (f : EvA) : EvX := fun z => (f z).bind fun x => (lendAll x.2 x.1).bind fun ds => if ds.length = m then (pick ds pm).bind fun as => if as.length = n then (g as x.2.2).map fun r => (r.1, (x.2.1, r.2)) else none else none
theorem pel_nox {X : Cx} {W : Wd} {B : Bs} : ∀ {vs : List Expr} {fs : List Ev}, PEL X.nox W B vs fs → PEL X W B vs fs
  | _, _, .nil => .nil
  | _, _, .cons h t => .cons (PE.nox h) (pel_nox t)
def XE.callK (x : Str) (ks : List Str) (n : Nat) (g : FnX) (pm : List Nat) (es : Es) : XE where
  sh := fun N sc e => match e with
    | .Call (.Name y _) [] kws _ => decide (y = x) && glb sc y && nodbg y && kwsOk ks kws && chkL N sc es (kws.map (·.value))
    | _ => false
  sem := xCallK n g ks.length pm ((evL es).foldr fCons fNil)
  need := fun G lv => (∃ k, k ≤ lv ∧ CalKX G.P G.w G.W.K G.mg G.base G.W k x n g ks pm) ∧ needEs G lv es
  ok := fun {G lv} nd N sc X fx e h B wx tk => by
    split at h
    · rename_i y p kws pos
      simp only [Bool.and_eq_true, decide_eq_true_eq] at h
      obtain ⟨⟨⟨⟨rfl, g1⟩, nd2⟩, ko⟩, h4⟩ := h
      obtain ⟨⟨k, hk, C⟩, ne⟩ := nd
      obtain ⟨f, fd, ps, F, hm, kp, bi⟩ := C.ex
      have pk : PK X kws (tevA G.W B ((evL es).foldr fCons fNil)) := fKs (pel_nox (sL es h4 ne fx B))
      generalize (evL es).foldr fCons fNil = ff at pk
      obtain ⟨x1, x2, x3, x4, x5, x6⟩ := fx_eqs fx
      have gy : Gl X y := show X.env.scope.names.lookup _ = _ by rw [x6]; exact glb_ok g1
      obtain ⟨a1, a2, a3, a4⟩ := kws_ok (env := X.env) (pos := pos) ko
      refine ⟨fun pins s σ H Q I q => wpAny_Call_Name_kw (ld_glob I gy (by rw [x4]; exact hm) ?_ (nodbg_ok nd2).1)⟩
      have pre : tevA G.W B ff σ H fun us H1 => us.length = ks.length ∧ ∃ as, pick us pm = some as ∧ spDX G.W n g as H1 Q (WE wx σ) := by
        obtain ⟨ι, z, r, z', zr, e1, kk⟩ := q
        unfold xCallK at e1
        cases ea : ff z with
        | none => rw [ea] at e1; cases e1
        | some xx =>
          rw [ea, Option.bind_some] at e1
          cases e2 : lendAll xx.2 xx.1 with
          | none => rw [e2] at e1; cases e1
          | some ds =>
            rw [e2, Option.bind_some] at e1
            split at e1
            · rename_i hn
              cases e3 : pick ds pm with
              | none => rw [e3] at e1; cases e1
              | some as =>
                rw [e3, Option.bind_some] at e1
                split at e1
                · rename_i hn2
                  cases e4 : g as xx.2.2 with
                  | none => rw [e4] at e1; cases e1
                  | some r =>
                    rw [e4] at e1
                    cases e1
                    refine ⟨ι, z, xx.1, xx.2, zr, ea, fun us ι1 H1 k1 r1 zr1 => ?_⟩
                    have hl := lendAll_rep zr1 r1 e2
                    obtain ⟨bs, q1, q2⟩ := pick_paired hl e3
                    exact ⟨by rw [← hn, Paired.length hl], bs, q1, spDX_end k1 hn2 q2 zr1 e4 kk⟩
                · cases e1
            · cases e1
      have F' : FnGX X.prog X.w X.K X.mg X.base k f fd ps (spDX G.W n g) := by rw [x1, x2, x3, x4, x5]; exact F
      refine PySem.W.callWith_KW0 (first := []) (h₀ := X.base) I.ok.mod.kin (x3 ▸ kp) a1 (thn (pk.run pos pins s σ H _ I pre) fun us s1 ⟨vs1, H1, I1, r, q1⟩ => ⟨I1.kIn, ?_⟩) (by rw [a3]; rfl)
      rw [a2]
      obtain ⟨l1, as, q2, q3⟩ := q1
      obtain ⟨bs, q4, q5⟩ := pick_paired r q2
      refine wpAny_call (codeAny_mono (backX tk I1 (F'.run X.A X.stack s1 H1 ⟨[], ks.zip us⟩ bs as Q _ (Room.mono fx.room hk) fx.gd I1.env0 (bi s1 us bs (by rw [← r.length]; exact l1) q4) q5 q3)) fun r s' hq => ?_)
      cases r with
      | error e => exact hq
      | ok fl => cases fl <;> exact hq
    · cases h
structure MakX (P : Program) (w : World) (K : PySem.W.Frag) (mg : Str → Option Value) (base : Heap) (W : Wd) (k : Nat) (x : Str) (c n : Nat) (g : FnX) (ks : List Str) (pm : List Nat) : Prop where
  ex : ∃ (C f : Addr) (fd : FuncData) (ps : List Str), FnGX P w K mg base k f fd ps (spDX W (n + 1) g) ∧ mg x = some (.ref C) ∧ Mk K C f ∧ Binds K fd ps [] ∧ W.cls c = some C ∧ Cls K C ∧
    ∀ (s : Shared) (self : Value) (ws as : List Value), ws.length = ks.length → pick ws pm = some as → BindsTo s fd ⟨[self], ks.zip ws⟩ (ps.zip (self :: as))
def xMk (c n : Nat) (g : FnX) (f : EvA) : EvX := fun z => (f z).bind fun x => (lendAll x.2 x.1).bind fun ds => if ds.length = n then mkX c g ds x.2 else none
def XE.make (x : Str) (c n : Nat) (g : FnX) (es : Es) : XE where
  sh := fun N sc e => match e with
    | .Call (.Name y _) (v :: vs) [] _ => decide (y = x) && glb sc y && nodbg y && (v :: vs).all notStar && chkEs N sc es (v :: vs)
    | _ => false
  sem := xMk c n g (evEs es)
  need := fun G lv => (∃ k ks pm, k + 1 ≤ lv ∧ MakX G.P G.w G.W.K G.mg G.base G.W k x c n g ks pm) ∧ needEs G lv es
  ok := fun {G lv} nd N sc X fx e h B wx tk => by
    split at h
    · rename_i y p v vs' pos
      simp only [Bool.and_eq_true, decide_eq_true_eq] at h
      obtain ⟨⟨⟨⟨rfl, g1⟩, nd2⟩, ns⟩, h4⟩ := h
      obtain ⟨⟨k, ks, pm, hk, M⟩, ne⟩ := nd
      obtain ⟨C, f, fd, ps, F, hm, mk, bi, hc, cl, _⟩ := M.ex
      have pa : PA X (v :: vs') (tevA G.W B (evEs es)) := PA.noxD (sEs es h4 ne fx B)
      generalize evEs es = ff at pa
      rw [List.all_cons, Bool.and_eq_true] at ns
      obtain ⟨x1, x2, x3, x4, x5, x6⟩ := fx_eqs fx
      have gy : Gl X y := show X.env.scope.names.lookup _ = _ by rw [x6]; exact glb_ok g1
      refine ⟨fun pins s σ H Q I q => wpAny_Call_Name_kw (ld_glob I gy (by rw [x4]; exact hm) ?_ (nodbg_ok nd2).1)⟩
      have pre : tevA G.W B ff σ H fun us H1 => ∀ a dx, H1 a = none → H1 dx = none → dx ≠ a → spDX G.W (n + 1) g (.ref a :: us) (upd (upd H1 dx (.own a)) a (.ins C dx [])) (fun v H2 => v = .non ∧ Q (.ref a) H2) (WE wx σ) := by
        obtain ⟨ι, z, r, z', zr, e1, kk⟩ := q
        unfold xMk at e1
        cases ea : ff z with
        | none => rw [ea] at e1; cases e1
        | some xx =>
          rw [ea, Option.bind_some] at e1
          cases e2 : lendAll xx.2 xx.1 with
          | none => rw [e2] at e1; cases e1
          | some ds =>
            rw [e2, Option.bind_some] at e1
            split at e1
            · rename_i hn
              exact ⟨ι, z, xx.1, xx.2, zr, ea, fun us ι1 H1 k1 r1 zr1 a dx ha hdx ne => mk_spDX hc cl k1 zr1 hn (lendAll_rep zr1 r1 e2) e1 kk ha hdx ne⟩
            · cases e1
      have mk' : Mk X.K C f := x3 ▸ mk
      have F' : FnGX X.prog X.w X.K X.mg X.base k f fd ps (spDX G.W (n + 1) g) := by rw [x1, x2, x3, x4, x5]; exact F
      refine PySem.W.callWith_K (h₀ := X.base) I.ok.mod.kin mk'.kp (thn (pa.run pos pins s σ H _ I pre) fun us s1 ⟨vs1, H1, I1, r, q1⟩ => ⟨I1.kIn, ?_⟩) (star_ok ns.1) (any_ok ns.2)
      have hlen : (us.length + 1) = ps.length := by
        have := F.len _ _ _ _ (q1 (s1.heap.objs.size + 1) s1.heap.objs.size (I1.hok.fresh (Nat.le_succ _)) (I1.hok.fresh (Nat.le_refl _)) (Nat.ne_of_lt (Nat.lt_succ_self _)))
        rw [← r.length]; simpa using this
      refine wpAny_call (codeAny_mono (run_makeGX (kw := []) (us := us) (bs := us) tk mk' F' (Room.mono fx.room hk) fx.gd (fun s' self hK => ?_) I1 r q1) fun r s' hq => ?_)
      · have hB := bi s' (self :: us) (x3 ▸ hK) (by simp; omega)
        rw [List.append_nil] at hB
        exact hB
      · cases r with
        | error e => exact hq
        | ok fl => cases fl <;> exact hq
    · cases h
end DE
set_option Elab.async false
set_option linter.all false
set_option maxRecDepth 100000
set_option maxHeartbeats 4000000
namespace DE
open PySem PySem.Spec PyProof.Rows L2
structure MthX (P : Program) (w : World) (K : PySem.W.Frag) (mg : Str → Option Value) (base : Heap) (W : Wd) (k : Nat) (c : Nat) (m : Str) (n : Nat) (g : FnX) (ks : List Str) (pm : List Nat) : Prop where
  ex : ∃ (C f : Addr) (fd : FuncData) (ps : List Str), FnGX P w K mg base k f fd ps (spDX W (n + 1) g) ∧ W.cls c = some C ∧ Meth K C m f ∧ Binds K fd ps [] ∧
    ∀ (s : Shared) (self : Value) (ws as : List Value), ws.length = ks.length → pick ws pm = some as → BindsTo s fd ⟨[self], ks.zip ws⟩ (ps.zip (self :: as))
  nm : ∀ j, j < W.nn → W.nm j ≠ m
end DE
set_option Elab.async false
set_option linter.all false
set_option maxRecDepth 100000
set_option maxHeartbeats 8000000
namespace DE
open PySem PySem.Spec L2 L2H
/-- the exception that is handled: its object, its class, its dict; as data -/
structure Ec where
  a : Addr
  oe : Obj
  C : Addr
  d : Option Addr
  c : Nat
  fs : List (Nat × D)
structure FitsH (G : GX) (lv : Nat) (N : List Str) (sc : Scope) (X : Cx) (v : Ec) : Prop where
  pr : X.prog = G.P
  hw : X.w = G.w
  k : X.K = G.W.K
  mg : X.mg = G.mg
  bs : X.base = G.base
  room : RoomH lv X.A
  gd : X.A.guards = some []
  n : X.N = N
  nd : N.Nodup
  sc : X.env.scope = sc
  pin : (v.a, v.oe) ∈ X.pn
  zc : Zc (.ref v.C) v.d v.oe
  fl : ∃ vs, v.oe.data = .fields vs
  hc : G.W.cls v.c = some v.C
  ext : ExT G.W.K v.C
theorem FitsH.admh {G : GX} {lv : Nat} {N : List Str} {sc : Scope} {X : Cx} {v : Ec} (f : FitsH G lv N sc X v) : AdmH G.W X := ⟨f.k, (by have := f.room.un; omega), f.gd⟩
/-- the exception stands at the entry -/
def BX (W : Wd) (v : Ec) (B : Bs) : Prop := XcRep W B.ι B.H v.c v.fs (.ref v.C) v.d ∧ ∀ a ∈ B.ι, ∃ o, B.H a = some o ∧ fzn o = false
/-- a built-in that may be called there -/
def BcH (W : Wd) (x : Str) (f : List D → Option D) : Prop := x ≠ "__name__" ∧ ∃ id, bootBuiltins x = some (.builtin id) ∧ ∀ X, AdmH W X → ∃ r, CallR X (.builtin id) r ∧ BcOk W r f
def ExtH (G : GX) (lv : Nat) (sh : List Str → Scope → Expr → Bool) (sem : Ev) (v : Ec) : Prop := ∀ (N : List Str) (sc : Scope) (X : Cx) (v' : Ec), FitsH G lv N sc X v' → v' = v → ∀ (e : Expr), sh N sc e = true → ∀ B, BX G.W v' B → PE X e (tev G.W B sem)
mutual
def needEH (G : GX) (lv : Nat) (v : Ec) : E → Prop
  | .var _ => True
  | .cst _ => True
  | .glo x d => GloN G x d
  | .bin o f a b => BinN G.W o f ∧ needEH G lv v a ∧ needEH G lv v b
  | .cmp o f a b => CmpN G.W o f ∧ needEH G lv v a ∧ needEH G lv v b
  | .chn o o' f f' a b c => CmpN G.W o f ∧ CmpN G.W o' f' ∧ needEH G lv v a ∧ needEH G lv v b ∧ needEH G lv v c
  | .un o f a => UnN G.W o f ∧ needEH G lv v a
  | .boo _ es => needEsH G lv v es
  | .not a => needEH G lv v a
  | .ife t a b => needEH G lv v t ∧ needEH G lv v a ∧ needEH G lv v b
  | .tup es => needEsH G lv v es
  | .esc a => needEH G lv v a
  | .bc x f es => G.mg x = none ∧ BcH G.W x f ∧ needEsH G lv v es
  | .mth T m f a es => MtN G.W T m f ∧ needEH G lv v a ∧ needEsH G lv v es
  | .own _ m f es => OwN G.W m f ∧ needEsH G lv v es
  | .app _ es => needEsH G lv v es
  | .idx f a b => IxN G.W f ∧ needEH G lv v a ∧ needEH G lv v b
  | .slc f a lo hi => SlN G.W f ∧ needEH G lv v a ∧ needOH G lv v lo ∧ needOH G lv v hi
  | .fr f => needFH G lv v f
  | .xx sh sem => ExtH G lv sh sem v
  | _ => False
def needEsH (G : GX) (lv : Nat) (v : Ec) : Es → Prop
  | .nil => True
  | .cons e es => needEH G lv v e ∧ needEsH G lv v es
  | .star e es => needEH G lv v e ∧ needEsH G lv v es
def needOH (G : GX) (lv : Nat) (v : Ec) : Oe → Prop
  | .no => True
  | .yes e => needEH G lv v e
def needFH (G : GX) (lv : Nat) (v : Ec) : FE → Prop
  | .dsp es => needEsH G lv v es
  | _ => False
end
mutual
theorem sEH {G : GX} {lv : Nat} {v : Ec} : ∀ (ir : E) {N : List Str} {sc : Scope} {e : Expr}, chkE N sc ir e = true → needEH G lv v ir → ∀ {X : Cx}, FitsH G lv N sc X v → ∀ B : Bs, BX G.W v B → PE X e (tev G.W B (evE ir))
  | .var i, N, sc, e, h, n, X, fx, B, bx => by
    unfold chkE at h
    split at h
    · simp only [Bool.and_eq_true, decide_eq_true_eq] at h
      have d := nodbg_ok h.2
      exact pe_varD (by rw [fx.n]; exact h.1.1) (by rw [fx.sc]; exact vis_ok h.1.2) d.1 d.2
    · cases h
  | .cst d, N, sc, e, h, n, X, fx, B, bx => by
    unfold chkE at h
    split at h
    · rename_i c k p
      unfold cstOk at h
      split at h
      · exact pe_nonD
      · rw [eq_of_beq h]; exact pe_boolD
      · rw [of_decide_eq_true h]; exact pe_intD
      · rw [Bool.and_eq_true, decide_eq_true_eq] at h
        exact pe_strD h.1 (by rw [sizeLine_eq]; exact Nat.le_of_ble_eq_true h.2)
      · cases h
    · cases h
  | .glo x d, N, sc, e, h, n, X, fx, B, bx => by
    unfold chkE at h
    split at h
    · simp only [Bool.and_eq_true, decide_eq_true_eq] at h
      obtain ⟨⟨rfl, h2⟩, h3⟩ := h
      unfold needEH at n
      obtain ⟨u, v, m, r, p, rp⟩ := n
      exact pe_globD (show X.env.scope.names.lookup _ = _ by rw [fx.sc]; exact glb_ok h2) (by rw [fx.mg]; exact m) r p rp (nodbg_ok h3).1
    · cases h
  | .bin o f a b, N, sc, e, h, n, X, fx, B, bx => by
    unfold chkE at h
    split at h
    · simp only [Bool.and_eq_true, decide_eq_true_eq] at h
      obtain ⟨⟨rfl, h2⟩, h3⟩ := h
      unfold needEH at n
      obtain ⟨r, ho, ok⟩ := n.1 X fx.admh
      exact pe_binM ho ok (sEH a h2 n.2.1 fx B bx) (sEH b h3 n.2.2 fx B bx)
    · cases h
  | .cmp o f a b, N, sc, e, h, n, X, fx, B, bx => by
    unfold chkE at h
    split at h
    · simp only [Bool.and_eq_true, decide_eq_true_eq] at h
      obtain ⟨⟨⟨rfl, hm⟩, h2⟩, h3⟩ := h
      unfold needEH at n
      obtain ⟨r, ho, ok⟩ := n.1 X fx.admh
      exact pe_cmpD ho ok (sEH a h2 n.2.1 fx B bx) (sEH b h3 n.2.2 fx B bx) (mark_ok hm)
    · cases h
  | .cmx o sem a b, N, sc, e, h, n, X, fx, B, bx => by
    unfold needEH at n
    exact n.elim
  | .chn o o2 f f2 a b c, N, sc, e, h, n, X, fx, B, bx => by
    unfold chkE at h
    split at h
    · simp only [Bool.and_eq_true, decide_eq_true_eq] at h
      obtain ⟨⟨⟨⟨⟨rfl, rfl⟩, hm⟩, h2⟩, h3⟩, h4⟩ := h
      unfold needEH at n
      obtain ⟨r, ho, ok⟩ := n.1 X fx.admh
      obtain ⟨r', ho', ok'⟩ := n.2.1 X fx.admh
      exact pe_chnD ho ok ho' ok' (sEH a h2 n.2.2.1 fx B bx) (sEH b h3 n.2.2.2.1 fx B bx) (sEH c h4 n.2.2.2.2 fx B bx) (mark_ok hm)
    · cases h
  | .un o f a, N, sc, e, h, n, X, fx, B, bx => by
    unfold chkE at h
    split at h
    · simp only [Bool.and_eq_true, decide_eq_true_eq] at h
      obtain ⟨⟨rfl, _⟩, h2⟩ := h
      unfold needEH at n
      obtain ⟨r, ho, ok⟩ := n.1 X fx.admh
      exact pe_unD ho ok (sEH a h2 n.2 fx B bx)
    · cases h
  | .boo c es, N, sc, e, h, n, X, fx, B, bx => by
    unfold chkE at h
    split at h
    · simp only [Bool.and_eq_true, decide_eq_true_eq] at h
      obtain ⟨rfl, h2⟩ := h
      unfold needEH at n
      exact sBH c es h2 n fx B bx
    · cases h
  | .not a, N, sc, e, h, n, X, fx, B, bx => by
    unfold chkE at h
    split at h
    · unfold needEH at n
      exact pe_notD (sEH a h n fx B bx)
    · cases h
  | .ife t a b, N, sc, e, h, n, X, fx, B, bx => by
    unfold chkE at h
    split at h
    · simp only [Bool.and_eq_true] at h
      unfold needEH at n
      exact pe_ifD (sTH t h.1.1 n.1 fx B bx) (sEH a h.1.2 n.2.1 fx B bx) (sEH b h.2 n.2.2 fx B bx)
    · cases h
  | .tup es, N, sc, e, h, n, X, fx, B, bx => by
    unfold chkE at h
    split at h
    · unfold needEH at n
      exact pe_tupD (sEsH es h n fx B bx)
    · cases h
  | .esc a, N, sc, e, h, n, X, fx, B, bx => by
    unfold chkE at h
    unfold needEH at n
    exact pe_escD (sEH a h n fx B bx)
  | .call x m g es, N, sc, e, h, n, X, fx, B, bx => by
    unfold needEH at n
    exact n.elim
  | .bc x f es, N, sc, e, h, n, X, fx, B, bx => by
    unfold chkE at h
    split at h
    · rename_i y p v vs pos
      simp only [Bool.and_eq_true, decide_eq_true_eq] at h
      obtain ⟨⟨⟨⟨rfl, h1⟩, h2⟩, h3⟩, h4⟩ := h
      unfold needEH at n
      obtain ⟨m, ⟨nn, id, bb, hX⟩, ne⟩ := n
      obtain ⟨r, hc, ok⟩ := hX X fx.admh
      rw [List.all_cons, Bool.and_eq_true] at h3
      exact pe_bcD hc ok (show X.env.scope.names.lookup _ = _ by rw [fx.sc]; exact glb_ok h1) (by rw [fx.mg]; exact m) bb (sEsH es h4 ne fx B bx) nn (nodbg_ok h2).1 (star_ok h3.1) (any_ok h3.2)
    · cases h
  | .bt x f es, N, sc, e, h, n, X, fx, B, bx => by
    unfold needEH at n
    exact n.elim
  | .mth T m f a es, N, sc, e, h, n, X, fx, B, bx => by
    unfold chkE at h
    split at h
    · rename_i o m' ap vs cp
      simp only [Bool.and_eq_true, decide_eq_true_eq] at h
      obtain ⟨⟨⟨⟨⟨rfl, h1⟩, h2⟩, h3⟩, h4⟩, h5⟩ := h
      unfold needEH at n
      obtain ⟨⟨id, pa, sl, ty, hX⟩, na, ne⟩ := n
      obtain ⟨r, hm, ok⟩ := hX X fx.admh
      have ho := sEH a h4 na fx B bx
      have ha := sEsH es h5 ne fx B bx
      have h3' : vs.all notStar = true := by
        have := h3
        unfold few at this
        rw [Bool.and_eq_true] at this
        exact this.1
      cases vs with
      | nil =>
        cases es with
        | nil => exact pe_mt0D fx.k pa sl ty hm ok ho (base_ok h1) h2
        | cons _ _ => unfold chkEs at h5; cases h5
        | star _ _ => unfold chkEs at h5; cases h5
      | cons v vs =>
        have h6 := h3'
        rw [List.all_cons, Bool.and_eq_true] at h6
        exact pe_mtD fx.k pa sl ty hm ok ho ha (base_ok h1) (few_ok h3) h2 (star_ok h6.1) (any_ok h6.2)
    · cases h
  | .own i m f es, N, sc, e, h, n, X, fx, B, bx => by
    unfold chkE at h
    split at h
    · rename_i x xp m' ap v vs cp
      simp only [Bool.and_eq_true, decide_eq_true_eq] at h
      obtain ⟨⟨⟨⟨⟨⟨rfl, h0⟩, h1⟩, h2⟩, h3⟩, h4⟩, h5⟩ := h
      unfold needEH at n
      obtain ⟨⟨id, sl, ty, hX⟩, ne⟩ := n
      obtain ⟨r, hm, ok⟩ := hX X fx.admh
      have h6 : (v :: vs).all notStar = true := by
        have := h4
        unfold few at this
        rw [Bool.and_eq_true] at this
        exact this.1
      rw [List.all_cons, Bool.and_eq_true] at h6
      exact pe_ownD fx.k sl ty hm ok (by rw [fx.n]; exact h0) (by rw [fx.sc]; exact vis_ok h1) (nodbg_ok h2).1 (nodbg_ok h2).2 (sEsH es h5 ne fx B bx) (base_ok rfl) (few_ok h4) h3 (star_ok h6.1) (any_ok h6.2)
    · cases h
  | .app i es, N, sc, e, h, n, X, fx, B, bx => by
    unfold chkE at h
    split at h
    · rename_i x xp m' ap v vs cp
      simp only [Bool.and_eq_true, decide_eq_true_eq] at h
      obtain ⟨⟨⟨⟨⟨⟨rfl, h0⟩, h1⟩, h2⟩, h3⟩, h4⟩, h5⟩ := h
      unfold needEH at n
      have h6 : (v :: vs).all notStar = true := by
        have := h4
        unfold few at this
        rw [Bool.and_eq_true] at this
        exact this.1
      rw [List.all_cons, Bool.and_eq_true] at h6
      exact pe_appD fx.k (by rw [fx.n]; exact h0) (by rw [fx.sc]; exact vis_ok h1) (nodbg_ok h2).1 (nodbg_ok h2).2 (sEsH es h5 n fx B bx) (base_ok rfl) (few_ok h4) h3 (star_ok h6.1) (any_ok h6.2)
    · cases h
  | .idx f a b, N, sc, e, h, n, X, fx, B, bx => by
    unfold chkE at h
    split at h
    · simp only [Bool.and_eq_true] at h
      unfold needEH at n
      obtain ⟨r, hr, ok⟩ := n.1 X fx.admh
      exact pe_ixD hr ok (sEH a h.1.2 n.2.1 fx B bx) (sEH b h.2 n.2.2 fx B bx) (ix_ok h.1.1)
    · cases h
  | .slc f a lo hi, N, sc, e, h, n, X, fx, B, bx => by
    unfold chkE at h
    split at h
    · simp only [Bool.and_eq_true] at h
      unfold needEH at n
      obtain ⟨r, hr, ok⟩ := n.1 X fx.admh
      exact pe_slD hr ok (sEH a h.1.1 n.2.1 fx B bx) (sOH lo h.1.2 n.2.2.1 fx B bx) (sOH hi h.2 n.2.2.2 fx B bx)
    · cases h
  | .fr f, N, sc, e, h, n, X, fx, B, bx => by
    unfold chkE at h
    unfold needEH at n
    exact pe_frzD (sFH f h n fx B bx)
  | .cel f, N, sc, e, h, n, X, fx, B, bx => by
    unfold needEH at n
    exact n.elim
  | .ext sh sem es, N, sc, e, h, n, X, fx, B, bx => by
    unfold needEH at n
    exact n.elim
  | .xx sh sem, N, sc, e, h, n, X, fx, B, bx => by
    unfold chkE at h
    rw [Bool.and_eq_true] at h
    unfold needEH at n
    exact n N sc X v fx rfl e h.1 B bx
theorem sTH {G : GX} {lv : Nat} {v : Ec} : ∀ (ir : E) {N : List Str} {sc : Scope} {e : Expr}, chkE N sc ir e = true → needEH G lv v ir → ∀ {X : Cx}, FitsH G lv N sc X v → ∀ B : Bs, BX G.W v B → PT X e (ttv G.W B (evT ir))
  | .boo c es, N, sc, e, h, n, X, fx, B, bx => by
    unfold chkE at h
    split at h
    · simp only [Bool.and_eq_true, decide_eq_true_eq] at h
      obtain ⟨rfl, h2⟩ := h
      unfold needEH at n
      exact (sBTH c es h2 n fx B bx).pt
    · cases h
  | .not a, N, sc, e, h, n, X, fx, B, bx => by
    unfold chkE at h
    split at h
    · unfold needEH at n
      exact pt_notD (sTH a h n fx B bx)
    · cases h
  | .cmp o f a b, N, sc, e, h, n, X, fx, B, bx => by
    unfold chkE at h
    split at h
    · simp only [Bool.and_eq_true, decide_eq_true_eq] at h
      obtain ⟨⟨⟨rfl, hm⟩, h2⟩, h3⟩ := h
      unfold needEH at n
      obtain ⟨r, ho, ok⟩ := n.1 X fx.admh
      exact pt_cmpD ho ok (sEH a h2 n.2.1 fx B bx) (sEH b h3 n.2.2 fx B bx) (mark_ok hm)
    · cases h
  | .cmx o sem a b, N, sc, e, h, n, X, fx, B, bx => by
    unfold needEH at n
    exact n.elim
  | .chn o o2 f f2 a b c, N, sc, e, h, n, X, fx, B, bx => by
    unfold chkE at h
    split at h
    · simp only [Bool.and_eq_true, decide_eq_true_eq] at h
      obtain ⟨⟨⟨⟨⟨rfl, rfl⟩, hm⟩, h2⟩, h3⟩, h4⟩ := h
      unfold needEH at n
      obtain ⟨r, ho, ok⟩ := n.1 X fx.admh
      obtain ⟨r', ho', ok'⟩ := n.2.1 X fx.admh
      exact pt_chnD ho ok ho' ok' (sEH a h2 n.2.2.1 fx B bx) (sEH b h3 n.2.2.2.1 fx B bx) (sEH c h4 n.2.2.2.2 fx B bx) (mark_ok hm)
    · cases h
  | .ife _ _ _, N, sc, e, h, n, X, fx, B, bx => ⟨fun _ _ _ _ _ _ q => by obtain ⟨_, _, _, _, _, e1, _⟩ := q; cases e1⟩
  | .tup _, N, sc, e, h, n, X, fx, B, bx => ⟨fun _ _ _ _ _ _ q => by obtain ⟨_, _, _, _, _, e1, _⟩ := q; cases e1⟩
  | .esc _, N, sc, e, h, n, X, fx, B, bx => ⟨fun _ _ _ _ _ _ q => by obtain ⟨_, _, _, _, _, e1, _⟩ := q; cases e1⟩
  | .own _ _ _ _, N, sc, e, h, n, X, fx, B, bx => ⟨fun _ _ _ _ _ _ q => by obtain ⟨_, _, _, _, _, e1, _⟩ := q; cases e1⟩
  | .app _ _, N, sc, e, h, n, X, fx, B, bx => ⟨fun _ _ _ _ _ _ q => by obtain ⟨_, _, _, _, _, e1, _⟩ := q; cases e1⟩
  | .slc _ _ _ _, N, sc, e, h, n, X, fx, B, bx => ⟨fun _ _ _ _ _ _ q => by obtain ⟨_, _, _, _, _, e1, _⟩ := q; cases e1⟩
  | .fr _, N, sc, e, h, n, X, fx, B, bx => ⟨fun _ _ _ _ _ _ q => by obtain ⟨_, _, _, _, _, e1, _⟩ := q; cases e1⟩
  | .cel _, N, sc, e, h, n, X, fx, B, bx => by
    unfold needEH at n
    exact n.elim
  | .var i, N, sc, e, h, n, X, fx, B, bx => by
    unfold chkE at h
    split at h
    · simp only [Bool.and_eq_true, decide_eq_true_eq] at h
      have d := nodbg_ok h.2
      exact pt_valD (pe_varD (by rw [fx.n]; exact h.1.1) (by rw [fx.sc]; exact vis_ok h.1.2) d.1 d.2) (true_ok rfl)
    · cases h
  | .cst d, N, sc, e, h, n, X, fx, B, bx => by
    unfold chkE at h
    split at h
    · rename_i c k p
      unfold cstOk at h
      split at h
      · exact pt_valD pe_nonD (true_ok rfl)
      · rw [eq_of_beq h]; exact pt_valD pe_boolD (true_ok rfl)
      · rw [of_decide_eq_true h]; exact pt_valD pe_intD (true_ok rfl)
      · rw [Bool.and_eq_true, decide_eq_true_eq] at h
        exact pt_valD (pe_strD h.1 (by rw [sizeLine_eq]; exact Nat.le_of_ble_eq_true h.2)) (true_ok rfl)
      · cases h
    · cases h
  | .glo x d, N, sc, e, h, n, X, fx, B, bx => by
    unfold chkE at h
    split at h
    · simp only [Bool.and_eq_true, decide_eq_true_eq] at h
      obtain ⟨⟨rfl, h2⟩, h3⟩ := h
      unfold needEH at n
      obtain ⟨u, v, m, r, p, rp⟩ := n
      exact pt_valD (pe_globD (show X.env.scope.names.lookup _ = _ by rw [fx.sc]; exact glb_ok h2) (by rw [fx.mg]; exact m) r p rp (nodbg_ok h3).1) (true_ok rfl)
    · cases h
  | .bin o f a b, N, sc, e, h, n, X, fx, B, bx => by
    unfold chkE at h
    split at h
    · simp only [Bool.and_eq_true, decide_eq_true_eq] at h
      obtain ⟨⟨rfl, h2⟩, h3⟩ := h
      unfold needEH at n
      obtain ⟨r, ho, ok⟩ := n.1 X fx.admh
      exact pt_valD (pe_binM ho ok (sEH a h2 n.2.1 fx B bx) (sEH b h3 n.2.2 fx B bx)) (true_ok rfl)
    · cases h
  | .un o f a, N, sc, e, h, n, X, fx, B, bx => by
    unfold chkE at h
    split at h
    · simp only [Bool.and_eq_true, decide_eq_true_eq] at h
      obtain ⟨⟨rfl, h1⟩, h2⟩ := h
      unfold needEH at n
      obtain ⟨r, ho, ok⟩ := n.1 X fx.admh
      refine pt_valD (pe_unD ho ok (sEH a h2 n.2 fx B bx)) (true_ok ?_)
      rename_i o2 _ _
      cases o2 <;> first | rfl | exact absurd rfl h1
    · cases h
  | .call x m g es, N, sc, e, h, n, X, fx, B, bx => by
    unfold needEH at n
    exact n.elim
  | .bc x f es, N, sc, e, h, n, X, fx, B, bx => by
    unfold chkE at h
    split at h
    · rename_i y p v vs pos
      simp only [Bool.and_eq_true, decide_eq_true_eq] at h
      obtain ⟨⟨⟨⟨rfl, h1⟩, h2⟩, h3⟩, h4⟩ := h
      unfold needEH at n
      obtain ⟨m, ⟨nn, id, bb, hX⟩, ne⟩ := n
      obtain ⟨r, hc, ok⟩ := hX X fx.admh
      rw [List.all_cons, Bool.and_eq_true] at h3
      exact pt_valD (pe_bcD hc ok (show X.env.scope.names.lookup _ = _ by rw [fx.sc]; exact glb_ok h1) (by rw [fx.mg]; exact m) bb (sEsH es h4 ne fx B bx) nn (nodbg_ok h2).1 (star_ok h3.1) (any_ok h3.2)) (true_ok rfl)
    · cases h
  | .bt x f es, N, sc, e, h, n, X, fx, B, bx => by
    unfold needEH at n
    exact n.elim
  | .mth T m f a es, N, sc, e, h, n, X, fx, B, bx => by
    unfold chkE at h
    split at h
    · rename_i o m' ap vs cp
      simp only [Bool.and_eq_true, decide_eq_true_eq] at h
      obtain ⟨⟨⟨⟨⟨rfl, h1⟩, h2⟩, h3⟩, h4⟩, h5⟩ := h
      unfold needEH at n
      obtain ⟨⟨id, pa, sl, ty, hX⟩, na, ne⟩ := n
      obtain ⟨r, hm, ok⟩ := hX X fx.admh
      have ho := sEH a h4 na fx B bx
      have ha := sEsH es h5 ne fx B bx
      have h3' : vs.all notStar = true := by
        have := h3
        unfold few at this
        rw [Bool.and_eq_true] at this
        exact this.1
      cases vs with
      | nil =>
        cases es with
        | nil => exact pt_valD (pe_mt0D fx.k pa sl ty hm ok ho (base_ok h1) h2) (true_ok rfl)
        | cons _ _ => unfold chkEs at h5; cases h5
        | star _ _ => unfold chkEs at h5; cases h5
      | cons v vs =>
        have h6 := h3'
        rw [List.all_cons, Bool.and_eq_true] at h6
        exact pt_valD (pe_mtD fx.k pa sl ty hm ok ho ha (base_ok h1) (few_ok h3) h2 (star_ok h6.1) (any_ok h6.2)) (true_ok rfl)
    · cases h
  | .idx f a b, N, sc, e, h, n, X, fx, B, bx => by
    unfold chkE at h
    split at h
    · simp only [Bool.and_eq_true] at h
      unfold needEH at n
      obtain ⟨r, hr, ok⟩ := n.1 X fx.admh
      exact pt_valD (pe_ixD hr ok (sEH a h.1.2 n.2.1 fx B bx) (sEH b h.2 n.2.2 fx B bx) (ix_ok h.1.1)) (true_ok rfl)
    · cases h
  | .ext sh sem es, N, sc, e, h, n, X, fx, B, bx => by
    unfold needEH at n
    exact n.elim
  | .xx sh sem, N, sc, e, h, n, X, fx, B, bx => by
    unfold chkE at h
    rw [Bool.and_eq_true] at h
    unfold needEH at n
    exact pt_valD (n N sc X v fx rfl e h.1 B bx) (true_ok h.2)
theorem sEsH {G : GX} {lv : Nat} {v : Ec} : ∀ (ir : Es) {N : List Str} {sc : Scope} {es : List Expr}, chkEs N sc ir es = true → needEsH G lv v ir → ∀ {X : Cx}, FitsH G lv N sc X v → ∀ B : Bs, BX G.W v B → PA X es (tevA G.W B (evEs ir))
  | .nil, N, sc, es, h, n, X, fx, B, bx => by
    unfold chkEs at h
    split at h
    · exact pa_nilD
    · cases h
  | .cons e r, N, sc, es, h, n, X, fx, B, bx => by
    unfold chkEs at h
    split at h
    · simp only [Bool.and_eq_true] at h
      unfold needEsH at n
      exact pa_consD (sEH e h.1.2 n.1 fx B bx) (sEsH r h.2 n.2 fx B bx) (star_ok h.1.1)
    · cases h
  | .star e r, N, sc, es, h, n, X, fx, B, bx => by
    unfold chkEs at h
    split at h
    · simp only [Bool.and_eq_true] at h
      unfold needEsH at n
      exact pa_starD fx.k (sEH e h.1 n.1 fx B bx) (sEsH r h.2 n.2 fx B bx) rfl
    · cases h
theorem sOH {G : GX} {lv : Nat} {v : Ec} : ∀ (ir : Oe) {N : List Str} {sc : Scope} {x : Option Expr}, chkO N sc ir x = true → needOH G lv v ir → ∀ {X : Cx}, FitsH G lv N sc X v → ∀ B : Bs, BX G.W v B → PO X x (tov G.W B (evO ir))
  | .no, N, sc, x, h, n, X, fx, B, bx => by
    unfold chkO at h
    split at h
    · exact po_noD
    · cases h
  | .yes e, N, sc, x, h, n, X, fx, B, bx => by
    unfold chkO at h
    split at h
    · unfold needOH at n
      exact po_someD (sEH e h n fx B bx)
    · cases h
theorem sBH {G : GX} {lv : Nat} {v : Ec} : ∀ (c : Bool) (ir : Es) {N : List Str} {sc : Scope} {es : List Expr} {pos : Pos}, chkEs N sc ir es = true → needEsH G lv v ir → ∀ {X : Cx}, FitsH G lv N sc X v → ∀ B : Bs, BX G.W v B → PE X (.BoolOp (if c then BoolOp.And else BoolOp.Or) es pos) (tev G.W B (evB c ir))
  | c, .nil, N, sc, es, pos, h, n, X, fx, B, bx => ⟨fun _ _ _ _ _ _ q => by obtain ⟨_, _, _, _, _, e1, _⟩ := q; unfold evB at e1; cases e1⟩
  | c, .star _ _, N, sc, es, pos, h, n, X, fx, B, bx => ⟨fun _ _ _ _ _ _ q => by obtain ⟨_, _, _, _, _, e1, _⟩ := q; unfold evB at e1; cases e1⟩
  | c, .cons _ (.star _ _), N, sc, es, pos, h, n, X, fx, B, bx => ⟨fun _ _ _ _ _ _ q => by obtain ⟨_, _, _, _, _, e1, _⟩ := q; unfold evB at e1; cases c <;> cases e1⟩
  | c, .cons e .nil, N, sc, es, pos, h, n, X, fx, B, bx => by
    unfold chkEs at h
    split at h
    · simp only [Bool.and_eq_true] at h
      unfold needEsH at n
      have h2 := h.2
      unfold chkEs at h2
      split at h2
      · have : evB c (.cons e .nil) = evE e := by cases c <;> rfl
        rw [this]
        exact pe_one (sEH e h.1.2 n.1 fx B bx)
      · cases h2
    · cases h
  | true, .cons e (.cons e2 r), N, sc, es, pos, h, n, X, fx, B, bx => by
    unfold chkEs at h
    split at h
    · simp only [Bool.and_eq_true] at h
      unfold needEsH at n
      have h2 := h.2
      have ih := sBH true (.cons e2 r) (pos := pos) h.2 n.2 fx B bx
      unfold chkEs at h2
      split at h2
      · exact pe_andD (sEH e h.1.2 n.1 fx B bx) ih
      · cases h2
    · cases h
  | false, .cons e (.cons e2 r), N, sc, es, pos, h, n, X, fx, B, bx => by
    unfold chkEs at h
    split at h
    · simp only [Bool.and_eq_true] at h
      unfold needEsH at n
      have h2 := h.2
      have ih := sBH false (.cons e2 r) (pos := pos) h.2 n.2 fx B bx
      unfold chkEs at h2
      split at h2
      · exact pe_orD (sEH e h.1.2 n.1 fx B bx) ih
      · cases h2
    · cases h
theorem sBTH {G : GX} {lv : Nat} {v : Ec} : ∀ (c : Bool) (ir : Es) {N : List Str} {sc : Scope} {es : List Expr} {pos : Pos}, chkEs N sc ir es = true → needEsH G lv v ir → ∀ {X : Cx}, FitsH G lv N sc X v → ∀ B : Bs, BX G.W v B → PW X (.BoolOp (if c then BoolOp.And else BoolOp.Or) es pos) (ttv G.W B (evBT c ir))
  | c, .nil, N, sc, es, pos, h, n, X, fx, B, bx => ⟨fun _ _ _ _ _ _ _ q => by obtain ⟨_, _, _, _, _, e1, _⟩ := q; unfold evBT at e1; cases e1⟩
  | c, .star _ _, N, sc, es, pos, h, n, X, fx, B, bx => ⟨fun _ _ _ _ _ _ _ q => by obtain ⟨_, _, _, _, _, e1, _⟩ := q; unfold evBT at e1; cases e1⟩
  | c, .cons _ (.star _ _), N, sc, es, pos, h, n, X, fx, B, bx => ⟨fun _ _ _ _ _ _ _ q => by obtain ⟨_, _, _, _, _, e1, _⟩ := q; unfold evBT at e1; cases c <;> cases e1⟩
  | true, .cons e .nil, N, sc, es, pos, h, n, X, fx, B, bx => by
    unfold chkEs at h
    split at h
    · simp only [Bool.and_eq_true] at h
      unfold needEsH at n
      have h2 := h.2
      unfold chkEs at h2
      split at h2
      · exact pw_and1 (sTH e h.1.2 n.1 fx B bx)
      · cases h2
    · cases h
  | false, .cons e .nil, N, sc, es, pos, h, n, X, fx, B, bx => by
    unfold chkEs at h
    split at h
    · simp only [Bool.and_eq_true] at h
      unfold needEsH at n
      have h2 := h.2
      unfold chkEs at h2
      split at h2
      · exact pw_or1 (sTH e h.1.2 n.1 fx B bx)
      · cases h2
    · cases h
  | true, .cons e (.cons e2 r), N, sc, es, pos, h, n, X, fx, B, bx => by
    unfold chkEs at h
    split at h
    · simp only [Bool.and_eq_true] at h
      unfold needEsH at n
      have h2 := h.2
      have ih := sBTH true (.cons e2 r) (pos := pos) h.2 n.2 fx B bx
      unfold chkEs at h2
      split at h2
      · exact pw_andD (sTH e h.1.2 n.1 fx B bx) ih
      · cases h2
    · cases h
  | false, .cons e (.cons e2 r), N, sc, es, pos, h, n, X, fx, B, bx => by
    unfold chkEs at h
    split at h
    · simp only [Bool.and_eq_true] at h
      unfold needEsH at n
      have h2 := h.2
      have ih := sBTH false (.cons e2 r) (pos := pos) h.2 n.2 fx B bx
      unfold chkEs at h2
      split at h2
      · exact pw_orD (sTH e h.1.2 n.1 fx B bx) ih
      · cases h2
    · cases h
theorem sFH {G : GX} {lv : Nat} {v : Ec} : ∀ (ir : FE) {N : List Str} {sc : Scope} {e : Expr}, chkF N sc ir e = true → needFH G lv v ir → ∀ {X : Cx}, FitsH G lv N sc X v → ∀ B : Bs, BX G.W v B → PE X e (tfr G.W B (evF ir))
  | .dsp es, N, sc, e, h, n, X, fx, B, bx => by
    unfold chkF at h
    split at h
    · unfold needFH at n
      exact pe_dspD (sEsH es h n fx B bx)
    · cases h
  | .comp it ct t el own, N, sc, e, h, n, X, fx, B, bx => by
    unfold needFH at n
    exact n.elim
  | .comp2 it ct t it1 ct1 t1 el own, N, sc, e, h, n, X, fx, B, bx => by
    unfold needFH at n
    exact n.elim
  | .bl x f es, N, sc, e, h, n, X, fx, B, bx => by
    unfold needFH at n
    exact n.elim
  | .blt x f es, N, sc, e, h, n, X, fx, B, bx => by
    unfold needFH at n
    exact n.elim
  | .ext sh sem es, N, sc, e, h, n, X, fx, B, bx => by
    unfold needFH at n
    exact n.elim
end
mutual
def needSH (G : GX) (lv : Nat) (v : Ec) : S → Prop
  | .set _ e => needEH G lv v e
  | .own _ f => needFH G lv v f
  | .exp e => needEH G lv v e
  | .ret e => needEH G lv v e
  | .ife t a b => needEH G lv v t ∧ needSsH G lv v a ∧ needSsH G lv v b
  | .pass => True
  | _ => False
def needSsH (G : GX) (lv : Nat) (v : Ec) : Ss → Prop
  | .nil => True
  | .cons s ss => needSH G lv v s ∧ needSsH G lv v ss
  | .never => True
end
mutual
theorem sSH {G : GX} {lv : Nat} {v : Ec} : ∀ (ir : S) {N : List Str} {sc : Scope} {st : Stmt}, chkS N sc ir st = true → needSH G lv v ir → ∀ {X : Cx}, FitsH G lv N sc X v → sc.kind = .function → (∀ x, X.fn x = true) → ∀ B : Bs, BX G.W v B → PS X st (tss G.W B (evS ir))
  | .set i a, N, sc, st, h, n, X, fx, hk, hf, B, bx => by
    unfold chkS at h
    split at h
    · simp only [Bool.and_eq_true, decide_eq_true_eq, Bool.not_eq_true'] at h
      obtain ⟨⟨⟨⟨h1, h2⟩, h3⟩, h4⟩, h5⟩ := h
      unfold needSH at n
      exact ps_setD (by rw [fx.n]; exact fx.nd) (by rw [fx.n]; exact h1) (by rw [fx.sc]; exact locF_ok h2) (sEH a h5 n fx B bx) (by rw [swB_ok (by rw [fx.sc]; exact hk) h3, fx.sc, h4]) (.inl (hf _))
    · cases h
  | .setC i f, N, sc, st, h, n, X, fx, hk, hf, B, bx => by
    unfold needSH at n
    exact n.elim
  | .own i f, N, sc, st, h, n, X, fx, hk, hf, B, bx => by
    unfold chkS at h
    split at h
    · simp only [Bool.and_eq_true, decide_eq_true_eq, Bool.not_eq_true'] at h
      obtain ⟨⟨⟨⟨h1, h2⟩, h3⟩, h4⟩, h5⟩ := h
      unfold needSH at n
      exact ps_ownD (by rw [fx.n]; exact fx.nd) (by rw [fx.n]; exact h1) (by rw [fx.sc]; exact locF_ok h2) (sFH f h5 n fx B bx) (by rw [swB_ok (by rw [fx.sc]; exact hk) h3, fx.sc, h4]) (.inl (hf _))
    · cases h
  | .ownC i f, N, sc, st, h, n, X, fx, hk, hf, B, bx => by
    unfold needSH at n
    exact n.elim
  | .asg g a, N, sc, st, h, n, X, fx, hk, hf, B, bx => by
    unfold needSH at n
    exact n.elim
  | .par i j a b, N, sc, st, h, n, X, fx, hk, hf, B, bx => by
    unfold needSH at n
    exact n.elim
  | .exp a, N, sc, st, h, n, X, fx, hk, hf, B, bx => by
    unfold chkS at h
    split at h
    · simp only [Bool.and_eq_true] at h
      unfold needSH at n
      exact ps_exprD (sEH a h.2 n fx B bx) (swap_ok h.1)
    · cases h
  | .ret a, N, sc, st, h, n, X, fx, hk, hf, B, bx => by
    unfold chkS at h
    split at h
    · unfold needSH at n
      exact ps_retD (sEH a h n fx B bx)
    · cases h
  | .ife t a b, N, sc, st, h, n, X, fx, hk, hf, B, bx => by
    unfold chkS at h
    split at h
    · simp only [Bool.and_eq_true] at h
      unfold needSH at n
      exact ps_ifD (sTH t h.1.1 n.1 fx B bx) (sSsH a h.1.2 n.2.1 fx hk hf B bx) (sSsH b h.2 n.2.2 fx hk hf B bx)
    · cases h
  | .fors it g b, N, sc, st, h, n, X, fx, hk, hf, B, bx => by
    unfold needSH at n
    exact n.elim
  | .whil m t b, N, sc, st, h, n, X, fx, hk, hf, B, bx => by
    unfold needSH at n
    exact n.elim
  | .pass, N, sc, st, h, n, X, fx, hk, hf, B, bx => by
    unfold chkS at h
    split at h
    · exact ps_passD
    · cases h
  | .brk, N, sc, st, h, n, X, fx, hk, hf, B, bx => by
    unfold needSH at n
    exact n.elim
  | .cont, N, sc, st, h, n, X, fx, hk, hf, B, bx => by
    unfold needSH at n
    exact n.elim
  | .never, N, sc, st, h, n, X, fx, hk, hf, B, bx => by
    unfold needSH at n
    exact n.elim
  | .ext sh sem es, N, sc, st, h, n, X, fx, hk, hf, B, bx => by
    unfold needSH at n
    exact n.elim
theorem sSsH {G : GX} {lv : Nat} {v : Ec} : ∀ (ir : Ss) {N : List Str} {sc : Scope} {st : List Stmt}, chkSs N sc ir st = true → needSsH G lv v ir → ∀ {X : Cx}, FitsH G lv N sc X v → sc.kind = .function → (∀ x, X.fn x = true) → ∀ B : Bs, BX G.W v B → PSs X st (tss G.W B (evSs ir))
  | .nil, N, sc, st, h, n, X, fx, hk, hf, B, bx => by
    unfold chkSs at h
    split at h
    · exact ss_nilD
    · cases h
  | .cons s ss, N, sc, st, h, n, X, fx, hk, hf, B, bx => by
    unfold chkSs at h
    split at h
    · simp only [Bool.and_eq_true] at h
      unfold needSsH at n
      exact ss_consD (sSH s h.1 n.1 fx hk hf B bx) (sSsH ss h.2 n.2 fx hk hf B bx)
    · cases h
  | .never, N, sc, st, h, n, X, fx, hk, hf, B, bx => pss_neverD
end
end DE
set_option Elab.async false
set_option linter.all false
set_option maxRecDepth 100000
set_option maxHeartbeats 4000000
namespace DE
open PySem PySem.Spec PyProof.Rows L2 L2H
/-- the promise of such a def: g tells by the exception's data -/
def spDE (W : Wd) (n : Nat) (g : Addr → Nat → List (Nat × D) → Fn) : Addr → Obj → Sp := fun a oe vs H Q _ => ∃ ι S ds d S' c fs C dd vs', vs = .ref a :: vs' ∧ ds.length = n ∧ Paired (Rep W ι H) ds vs' ∧ StRep W ι H S ∧ W.cls c = some C ∧ ExT W.K C ∧ Zc (.ref C) dd oe ∧ (∃ ws, oe.data = .fields ws) ∧ XcRep W ι H c fs (.ref C) dd ∧
  g a c fs ds S = some (d, S') ∧ ∀ v ι' H', CKp ι H ι' H' → StRep W ι' H' S' → d.plain = true → Rep W ι' H' d v → Q v H'
def fnDE (n : Nat) (b : Addr → Nat → List (Nat × D) → Ss) : Addr → Nat → List (Nat × D) → Fn := fun a c fs ds S => match evSs (b a c fs) (some (.obj a) :: rho0 n ds, S) with
  | some (.rt d, z) => some (d, z.2)
  | some (.nx, z) => some (.non, z.2)
  | _ => none
end DE
set_option Elab.async false
set_option linter.all false
set_option maxRecDepth 100000
set_option maxHeartbeats 4000000
namespace DE
open PySem PySem.Spec PyProof.Rows L2 L2H
/-- a def that is handed the exception, under a name -/
structure CalE (P : Program) (w : World) (K : PySem.W.Frag) (mg : Str → Option Value) (base : Heap) (W : Wd) (k : Nat) (x : Str) (n : Nat) (g : Addr → Nat → List (Nat × D) → Fn) : Prop where
  ex : ∃ (f : Addr) (fd : FuncData) (ps : List Str), FnE P w K mg base k f fd ps (spDE W n g) ∧ mg x = some (.ref f) ∧ PySem.W.keepIn K (.ref f) = true ∧ Binds K fd ps []
end DE
set_option Elab.async false
set_option linter.all false
set_option maxRecDepth 100000
set_option maxHeartbeats 4000000
namespace DE
open PySem PySem.Spec PyProof.Rows L2 L2H LamX
def rhoC (n : Nat) (sl : Option Nat) (a : Addr) : Rho := match sl with
  | none => List.replicate n none
  | some i => (List.replicate n none).set i (some (.obj a))
def endC (o : Option (Fl × Z)) : Option (D × Store) := match o with
  | some (.rt d, z) => some (d, z.2)
  | _ => none
/-- what the clauses make of an exception -/
def catchF (n : Nat) : List Cl → Addr → Nat → List (Nat × D) → Store → Option (D × Store)
  | [], _, _, _, _ => none
  | k :: r, a, c, fs, S => if k.tb c = true then endC (evSs (k.tr a c fs) (rhoC n k.sl a, S)) else catchF n r a c fs S
/-- what is done with what the call gives: kept in slot i, dropped, returned -/
inductive TK where
  | set (i : Nat) | exp | ret
def restF (n : Nat) (rest : Ss) : TK → D → Store → Option (D × Store)
  | .set i, d, S => if d.plain = true then endC (evSs rest ((List.replicate n none).set i (some (.imm d)), S)) else none
  | .exp, _, S => endC (evSs rest (List.replicate n none, S))
  | .ret, d, S => if d.plain = true then some (d, S) else none
/-- the clauses of the text are these -/
inductive HdC (G : GX) (lv : Nat) (N : List Str) (sc : Scope) (isx : Nat → Bool) : List ExceptHandler → List Cl → Prop
  | nil : HdC G lv N sc isx [] []
  | cons {te : Expr} {nm : Option Str} {b0 : Stmt} {suite : List Stmt} {pos : Pos} {hds : List ExceptHandler} {k : Cl} {l : List Cl}
      (ht : ∀ X : Cx, X.K = G.W.K → X.mg = G.mg → X.env.scope = sc → ∃ mt, HTst X te mt ∧ ∀ c C, G.W.cls c = some C → isx c = true → mt (.ref C) = some (k.tb c))
      (hs : match nm, k.sl with
        | none, none => True
        | some n, some i => N[i]? = some n ∧ isLc sc n = true
        | _, _ => False)
      (hc : ∀ a c fs, chkSs N sc (k.tr a c fs) (b0 :: suite) = true) (nd : ∀ v : Ec, needSsH G lv v (k.tr v.a v.c v.fs)) (r : HdC G lv N sc isx hds l) :
      HdC G lv N sc isx (.ExceptHandler (some te) nm (b0 :: suite) pos :: hds) (k :: l)
end DE
set_option Elab.async false
set_option linter.all false
set_option maxRecDepth 100000
set_option maxHeartbeats 4000000
namespace DE
open PySem PySem.Spec PyProof.Rows L2 L2H LamX
end DE
set_option Elab.async false
set_option linter.all false
set_option maxRecDepth 100000
set_option maxHeartbeats 4000000
namespace DE
open PySem PySem.Spec PyProof.Rows L2 L2H LamX
/-- the first statement within the try -/
def tkB (N : List Str) (sc : Scope) (a : Str) : TK → Stmt → Bool
  | .set i, st => (match st with
    | .Assign [.Name x _] (.Call (.Name y _) [] [] _) _ => decide (N[i]? = some x) && locF sc x && decide (y = a) && decide (0 < i)
    | _ => false)
  | .exp, st => (match st with
    | .Expr (.Call (.Name y _) [] [] _) _ => decide (y = a)
    | _ => false)
  | .ret, st => (match st with
    | .Return (some (.Call (.Name y _) [] [] _)) _ => decide (y = a)
    | _ => false)
end DE
set_option Elab.async false
set_option linter.all false
set_option maxRecDepth 100000
set_option maxHeartbeats 4000000
namespace DE
open PySem PySem.Spec PyProof.Rows L2 L2H LamX
def noPar : Arguments → Bool
  | ⟨[], [], none, [], [], none, []⟩ => true
  | _ => false
def semTell (isx : Nat → Bool) (rest : D → Store → Option (D × Store)) (cF : Nat → List (Nat × D) → Store → Option (D × Store)) (f : EvX) : Ev := fun z => (f z).bind fun x => match x.1 with
  | .ok d => if d.plain = true then (rest d x.2.2).bind fun r => if r.1.plain = true then some (r.1, (x.2.1, r.2)) else none else none
  | .ex c fs => if isx c = true then (cF c fs x.2.2).bind fun r => if r.1.plain = true then some (r.1, (x.2.1, r.2)) else none else none
/-- the catcher x: its text's clauses, what it gives -/
structure Tells (G : GX) (lv : Nat) (x : Str) (isx : Nat → Bool) (rest : D → Store → Option (D × Store)) (cF : Nat → List (Nat × D) → Store → Option (D × Store)) : Prop where
  ex : ∃ (a : Str) (g : Addr) (pg : Arguments) (st : Stmt) (h0 : ExceptHandler) (hds : List ExceptHandler) (restS : List Stmt) (pos : Pos) (sg : Scope) (fd : FuncData) (N : List Str) (tkk : TK) (l : List Cl) (rs : Ss),
    FunD G.W.K x x pg (.Try [st] (h0 :: hds) [] [] pos :: restS) sg [] [] g fd ∧ G.mg x = some (.ref g) ∧ FnScope N [a] sg ∧ Binds G.W.K fd [a] [] ∧ nodbg a = true ∧ tkB N sg a tkk st = true ∧ HdC (G.at_ (x ++ ".<locals>.")) lv N sg isx (h0 :: hds) l ∧ (∀ a c fs S r, cF c fs S = some r → catchF N.length l a c fs S = some r) ∧
    chkSs N sg rs restS = true ∧ needSs (G.at_ (x ++ ".<locals>.")) lv rs ∧ CdOk (G.at_ (x ++ ".<locals>.")) fd.code ∧ rest = restF N.length rs tkk
  isx : ∀ c C, isx c = true → G.W.cls c = some C → ExT G.W.K C
/-- x(lambda: a) -/
def tellSh (x : Str) (a : XE) : List Str → Scope → Expr → Bool := fun N sc e => match e with
  | .Call (.Name y _) [.Lambda params body scope _] [] _ => decide (y = x) && glb sc y && nodbg y && noPar params && lamSB sc scope && a.sh N scope body
  | _ => false
/-- .. as a tree -/
def tellE (x : Str) (isx : Nat → Bool) (rest : D → Store → Option (D × Store)) (cF : Nat → List (Nat × D) → Store → Option (D × Store)) (a : XE) : E := .xx (tellSh x a) (semTell isx rest cF a.sem)
end DE
set_option Elab.async false
set_option linter.all false
set_option maxRecDepth 100000
set_option maxHeartbeats 4000000
namespace DE
open PySem PySem.Spec PyProof.Rows L2
end DE
set_option Elab.async false
set_option linter.all false
set_option maxRecDepth 100000
set_option maxHeartbeats 4000000
namespace DE
open PySem PySem.Spec PyProof.Rows L2 LamX
section
variable {P : Program} {w : World} {K : PySem.W.Frag} {mg mb : Str → Option Value} {k : Nat} {fa a : Addr} {cs : List (Addr × Addr)} {fd : FuncData} {x : Str} {sp : Sp} {s₁ : Shared} {H : Hp} {ls : Array Value}
/-- a def's code object and table, beside what is tracked -/
theorem AtLaw.tabB (L : AtLaw cs a H) (ok : HOk P w H s₁.heap) (ha : s₁.heap.get? a = some { cls := .type "list", data := .seq ls }) (hns : s₁.heap.Ns mainGlobals mg) {p : Addr × Addr} (hp : p ∈ cs) (hd : PySem.W.CodeHd s₁.heap p.1 p.2)
    (hbm : ∃ (bm : Addr) (ob : Obj), mg "__builtins__" = some (.ref bm) ∧ bm ≠ builtinsNs ∧ s₁.heap.get? bm = some ob ∧ ob.cls = .type "module" ∧ ob.dict = some builtinsNs ∧ ob.data = .plain) : TabB (hidT s₁.heap H) mg p.1 p.2 := by
  have tp : s₁.heap.get? p.2 = some { cls := .none, data := .fields #[] } := ok p.2 _ (L.tab p hp)
  obtain ⟨og, es, ep, eg, dg, _⟩ := hns
  obtain ⟨oc, us, f1, f2, f3, f4, f5, f6, f7, e1, r1, r2, r3, r⟩ := hd
  obtain ⟨bm, ob, b1, b2, b3, b4, b5, b6⟩ := hbm
  refine ⟨⟨oc, us, f1, f2, f3, f4, f5, f6, f7, hidT_get e1 (L.none_ ok ha e1 (fun vs n z => by rw [r2] at z; cases z) fun z => by rw [r2] at z; cases z; simp at r3), r1, r2, r3, r⟩, ⟨bm, ob, b1, b2, fun q => ?_, fun q => ?_, hidT_get b3 (L.none_ ok ha b3 (fun vs n z => by rw [b6] at z; cases z) fun z => by rw [b6] at z; cases z), b4, b5, b6⟩, fun z => ?_⟩
  · rw [q, eg] at b3; cases b3; rw [dg] at b6; cases b6
  · rw [q, tp] at b3; cases b3; cases b6
  · rw [z, tp] at eg; cases eg; cases dg
/-- at the law's end the heap is as it was, but the tables may have grown -/
theorem AtLaw.old (L : AtLaw cs a H) (ok : HOk P w H s₁.heap) (C : ∀ p ∈ cs, PySem.W.CodeHd s₁.heap p.1 p.2) {s' : Shared} {H' : Hp} (ok' : HOk P w H' s'.heap) (un : Un [] [] H H' s₁.heap s'.heap) : OldK s₁.heap s'.heap := by
  have same : ∀ b o, (∀ p ∈ cs, p.2 ≠ b) → s₁.heap.get? b = some o → s'.heap.get? b = some o := fun b o nb e => by
    cases q : H b with
    | none => exact un.keep b o e q (fun z => absurd (show b ∈ ([] : List Addr) from z) (by simp)) (by simp)
    | some u =>
      rcases L.only b u q with ⟨_, ob, xs, rfl⟩ | ⟨_, p, hp, e2⟩
      · obtain ⟨e1, _⟩ := ok b _ q
        obtain ⟨e2, _⟩ := ok' b _ (un.frzs b ob _ q)
        rw [e] at e1; cases e1; exact e2
      · exact absurd e2 (nb p hp)
  have grown : ∀ p ∈ cs, ∃ more : Array Value, s'.heap.get? p.2 = some { cls := .none, data := .fields (#[] ++ more) } := fun p hp => by
    obtain ⟨more, z⟩ := un.tbls p.2 #[] (L.tab p hp)
    exact ⟨more, ok' p.2 _ z⟩
  have was : ∀ p ∈ cs, s₁.heap.get? p.2 = some { cls := .none, data := .fields #[] } := fun p hp => ok p.2 _ (L.tab p hp)
  refine ⟨fun b o e => ?_, fun b o e => ?_⟩ <;> by_cases hb : ∃ p ∈ cs, p.2 = b
  · obtain ⟨p, hp, rfl⟩ := hb
    obtain ⟨more, hm⟩ := grown p hp
    rw [was p hp] at e; cases e
    exact .inr (.inl ⟨((C p hp).tab (was p hp)).isCodeTable, rfl, #[], more, rfl, hm⟩)
  · exact .inl (same b o (fun p hp z => hb ⟨p, hp, z⟩) e)
  · obtain ⟨p, hp, rfl⟩ := hb
    obtain ⟨more, hm⟩ := grown p hp
    exact ⟨_, hm⟩
  · exact ⟨o, same b o (fun p hp z => hb ⟨p, hp, z⟩) e⟩
end
/-- the law is called -/
theorem law_callGT {P : Program} {w : World} {K : PySem.W.Frag} {mg mb : Str → Option Value} {k : Nat} {fa a : Addr} {cs : List (Addr × Addr)} {fd : FuncData} {x : Str} {sp : Sp} {s₁ : Shared} {vs : List Value} {ns : List Int}
    (KX : K.In s₁.heap) (hns : s₁.heap.Ns mainGlobals mg) (hb : s₁.heap.Ns builtinsNs mb) (hbb : ∀ x : Str, x ≠ "__name__" → mb x = bootBuiltins x) (hlim : s₁.heap.NoLimit) (hg : s₁.gens = #[])
    (hT : ∀ p ∈ cs, s₁.heap.get? p.2 = some { cls := .none, data := .fields #[] }) (nT : ∀ p ∈ cs, K.lookup p.2 = none) (C : ∀ p ∈ cs, PySem.W.CodeHd s₁.heap p.1 p.2)
    (hbm : ∃ (bm : Addr) (ob : Obj), mg "__builtins__" = some (.ref bm) ∧ bm ≠ builtinsNs ∧ s₁.heap.get? bm = some ob ∧ ob.cls = .type "module" ∧ ob.dict = some builtinsNs ∧ ob.data = .plain)
    (ha : s₁.heap.get? a = some { cls := .type "list", data := .seq vs.toArray }) (hi : IntsAre vs ns) (hl : ns.length ≤ sizeLine) (hr : Room k callerA)
    (F : ∀ base : Heap, K.In base → base.Ns mainGlobals mg → (∀ p ∈ cs, TabB base mg p.1 p.2) → FnG P w K mg base k fa fd [x] sp) (hbind : ∀ (s : Shared) (u : Value), BindsTo s fd ⟨[u], []⟩ [(x, u)])
    (hsp : ∀ H : Hp, AtLaw cs a H → Fz K H a (ns.map V.int) → sp [.ref a] H (fun v _ => v = .bl true) fun _ _ _ => False) :
    codeAny (model P w) callerA (.call (.ref fa) ⟨[.ref a], []⟩) (fun r s' => r = .ok (.ret (.bool true)) ∧ OldK s₁.heap s'.heap ∧ s'.os = s₁.os ∧ AllBare s'.gens) s₁ := by
  have rv := vals_ints hi
  have aT : ∀ p ∈ cs, p.2 ≠ a := fun p hp z => by
    have q := hT p hp
    rw [z, ha] at q
    exact nomatch (show Data.seq vs.toArray _ = Data.fields #[] from congrArg Obj.data (Option.some.inj q))
  have core : ∀ H : Hp, AtLaw cs a H → Fz K H a (ns.map V.int) → HOk P w H s₁.heap → (H a ≠ none → K.lookup a = none) →
      codeAny (model P w) callerA (.call (.ref fa) ⟨[.ref a], []⟩) (fun r s' => r = .ok (.ret (.bool true)) ∧ OldK s₁.heap s'.heap ∧ s'.os = s₁.os ∧ AllBare s'.gens) s₁ := by
    intro H L hS hok hK
    obtain ⟨kin, nsB, e0⟩ := L.env hok ha hK nT KX hns hb hbb hlim hg
    refine codeAny_mono ((F _ kin nsB fun p hp => L.tabB hok ha hns hp (C p hp) hbm).run callerA [] s₁ H ⟨[.ref a], []⟩ [.ref a] [.ref a] _ _ hr rfl e0 (hbind s₁ (.ref a)) (.cons rfl .nil) (hsp H L hS)) fun r s' h => ?_
    cases r with
    | error e => exact h.elim
    | ok fl =>
      cases fl with
      | ret u =>
        obtain ⟨v, H', os, bare, un, hok', r', q⟩ := h
        obtain rfl : v = .bl true := q
        obtain rfl : u = Value.bool true := r'
        exact ⟨rfl, L.old hok C hok' un, os, bare⟩
      | _ => exact h.elim
  have isT : ∀ b : Addr, (cs.any fun p => p.2 == b) = true → ∃ p ∈ cs, p.2 = b := fun b h => by
    obtain ⟨p, hp, e⟩ := List.any_eq_true.mp h
    exact ⟨p, hp, beq_iff_eq.mp e⟩
  have inT : ∀ p ∈ cs, (cs.any fun q => q.2 == p.2) = true := fun p hp => List.any_eq_true.mpr ⟨p, hp, beq_self_eq_true _⟩
  cases hk : K.lookup a with
  | some o =>
    have e := KX a o hk
    rw [ha] at e
    cases e
    have no : (if (cs.any fun p => p.2 == a) = true then some (HO.tbl #[]) else none) = none := if_neg fun z => by
      obtain ⟨p, hp, e⟩ := isT a z
      exact aT p hp e
    refine core (fun b => if (cs.any fun p => p.2 == b) = true then some (.tbl #[]) else none) ⟨fun b u z => ?_, fun p hp => if_pos (inT p hp)⟩ (.inr ⟨vs.toArray, 0, hk, by rw [List.size_toArray, hi.length]; exact hl, by simpa using rv⟩) (fun b u z => ?_) fun z => absurd no z
    all_goals
      by_cases hb : (cs.any fun p => p.2 == b) = true
      case neg => exact nomatch (if_neg hb).symm.trans z
      cases (if_pos hb).symm.trans z
      obtain ⟨p, hp, e⟩ := isT b hb
    · exact .inr ⟨rfl, p, hp, e⟩
    · exact e ▸ hT p hp
  | none =>
    refine core (fun b => if b = a then some (.frz { cls := .type "list", data := .seq vs.toArray } (.lst (ns.map V.int))) else if (cs.any fun p => p.2 == b) = true then some (.tbl #[]) else none) ⟨fun b u z => ?_, fun p hp => (if_neg (aT p hp)).trans (if_pos (inT p hp))⟩
      (.inl ⟨{ cls := .type "list", data := .seq vs.toArray }, if_pos rfl⟩) (fun b u z => ?_) fun _ => hk
    all_goals
      by_cases ha2 : b = a
      case pos =>
        cases (if_pos ha2).symm.trans z
        first
          | exact .inl ⟨ha2, _, _, rfl⟩
          | (subst ha2; exact ⟨ha, by rw [List.length_map]; exact hl, vs, _, rv, ha⟩)
      replace z := (if_neg ha2).symm.trans z
      by_cases hb : (cs.any fun p => p.2 == b) = true
      case neg => exact nomatch (if_neg hb).symm.trans z
      cases (if_pos hb).symm.trans z
      obtain ⟨p, hp, e⟩ := isT b hb
    · exact .inr ⟨rfl, p, hp, e⟩
    · exact e ▸ hT p hp
/-- a law by its promise on data, with tables -/
theorem walk_GT {l : PySem.W.OpenLaw} {n k : Nat} {q : Program} {loose : List Str} {XP : (Str → Option Value) → Heap → Prop} {YP : World → Heap → Prop} {d : DefRec} {x : Str} {g : Fn}
    (hn : l.most = some n) (hn2 : n ≤ sizeLine) (hdf : d.params.defaults = []) (hr : Room k callerA)
    (F : ∀ (w : World) (mg : Str → Option Value) (fa : Addr) (h : Heap), YP w h → h.Ns mainGlobals mg → mg d.name = some (.ref fa) →
      ∃ (K : PySem.W.Frag) (W : Wd) (fd : FuncData) (cs : List (Addr × Addr)), W.K = K ∧ (∀ t ∈ W.tb, ∃ p ∈ cs, p.2 = t.1) ∧ (∀ p ∈ cs, h.get? p.2 = some { cls := .none, data := .fields #[] }) ∧ (∀ p ∈ cs, K.lookup p.2 = none) ∧ (∀ p ∈ cs, PySem.W.CodeHd h p.1 p.2) ∧ K.In h ∧ (∀ (s : Shared) (u : Value), BindsTo s fd ⟨[u], []⟩ [(x, u)]) ∧
        ∀ base : Heap, K.In base → base.Ns mainGlobals mg → (∀ p ∈ cs, TabB base mg p.1 p.2) → FnG l.prog w K mg base k fa fd [x] (spD W 1 g))
    (hg : ∀ ns : List Int, ns.length ≤ n → (∀ z ∈ ns, Builtin.Int.intBits z ≤ 1048576) → ∃ S, g [.lst (ns.map .int)] [] = some (.bl true, S)) :
    PySem.W.WalkO q loose XP YP l.row.toRowW d [] (fun f vs => PySem.call f vs) := by
  refine Att.attach_callB hn hdf fun w s₀ s₁ mg mb fa o pm cd doc a vs ns G Y ho hd hcd hmg hobj hints hlen hbits hgens => ?_
  obtain ⟨K, W, fd, cs, rfl, htb, hT, nT, C, KX, hb, hF⟩ := F w mg fa _ Y G.T.g hmg
  have hl := Nat.le_trans hlen hn2
  refine law_callGT KX G.T.g G.T.b G.T.builtins G.T.nolimit hgens hT nT C G.T.bmain hobj hints hl hr hF hb fun H L hS => ?_
  obtain ⟨S, e⟩ := hg ns hlen hbits
  refine ⟨[], [], [.lst (ns.map .int)], .bl true, S, rfl, .cons ?_ .nil, ⟨?_, rfl, List.nodup_nil, fun m mo b e _ => by simp at e⟩, e, fun v ι' H' _ _ _ rv => ?_⟩
  · unfold Rep
    exact ⟨by rw [List.length_map]; exact hl, a, _, rfl, hS, repL_ints⟩
  · intro t ht
    obtain ⟨p, hp, e⟩ := htb t ht
    exact TabS.nil (e ▸ L.tab p hp)
  · unfold Rep at rv
    exact rv
end DE
set_option Elab.async false
set_option linter.all false
set_option maxRecDepth 100000
set_option maxHeartbeats 4000000
namespace DE
open PySem PySem.Spec PyProof.Rows L2 L2H LamX
theorem exB_ok {ve : Bool} {K : PySem.W.Frag} {C : Addr} (h : exB ve K C = true) : ExT K C := by
  unfold exB at h
  simp only [Bool.and_eq_true, decide_eq_true_eq] at h
  obtain ⟨h1, h2, h3, h4, h5, h6, h7, h8, h9, h10, h11, h12⟩ := h
  refine ⟨?_, He.eqO_ok h2, He.eqO_ok h3, He.eqO_ok h4, He.eqO_ok h5, He.eqO_ok h6, h7, h8, h9, h10, h11, h12⟩
  cases ve with
  | true => exact ⟨_, _, xbase_ve, h1⟩
  | false => exact ⟨_, _, xbase_ae, h1⟩
theorem xc1_ok {G : GX} {ve : Bool} {x f : Str} {c k : Nat} (he : exB ve G.W.K (He.ga G.W.K x) = true) (h : xc1B G.W.K x f = true) (hm : G.mg x = some (.ref (He.ga G.W.K x))) (hc : G.W.cls c = some (He.ga G.W.K x)) (hf : f = "given" ∨ f = "index" ∨ f = "number") (hk : k < G.W.nn) (hn : G.W.nm k = f) : XcN1 G x c k := by
  unfold xc1B at h
  simp only [Bool.and_eq_true, decide_eq_true_eq] at h
  exact ⟨_, _, f, hm, hc, exB_ok he, ini1_ok h.1, hf, He.eqO_ok h.2.1, h.2.2.1, He.eqO_ok h.2.2.2, hk, hn⟩
theorem xc0_ok {G : GX} {ve : Bool} {x : Str} {c : Nat} (he : exB ve G.W.K (He.ga G.W.K x) = true) (h : xc0B ve G.W.K x = true) (hm : G.mg x = some (.ref (He.ga G.W.K x))) (hc : G.W.cls c = some (He.ga G.W.K x)) : XcN0 G x c := by
  unfold xc0B at h
  cases ve with
  | true => exact ⟨_, _, _, _, _, hm, hc, exB_ok he, PySem.F.excBase_ValueError, h⟩
  | false => exact ⟨_, _, _, _, _, hm, hc, exB_ok he, PySem.F.excBase_ArithmeticError, h⟩
theorem kits_ok {K : PySem.W.Frag} {cn : List (Nat × Str)} {kt : List (Str × List Nat)} (h : kitsB K cn kt = true) {cls : Nat → Option Addr} (hc : ∀ c C, cls c = some C → ∃ p ∈ cn, p.1 = c ∧ He.ga K p.2 = C) {T : Str} {l : List Nat} (ht : (T, l) ∈ kt) {c : Nat} {C : Addr} (e : cls c = some C) : PySem.W.kitOne K (.ref C) (.ref (He.ga K T)) = some (tbx l c) := by
  obtain ⟨p, hp, rfl, rfl⟩ := hc c C e
  exact of_decide_eq_true (List.all_eq_true.mp (List.all_eq_true.mp h _ ht) p hp)
section
variable {G : GX} {lv : Nat}
theorem nE_tell {x : Str} {isx : Nat → Bool} {rest : D → Store → Option (D × Store)} {cF : Nat → List (Nat × D) → Store → Option (D × Store)} {a : XE} : needE G lv (tellE x isx rest cF a) = ExtX G lv (tellSh x a) (semTell isx rest cF a.sem) := by
  unfold tellE needE; rfl
end
end DE
set_option Elab.async false
set_option linter.all false
set_option maxRecDepth 100000
set_option maxHeartbeats 4000000
namespace DE
open PySem PySem.Spec PyProof.Rows L2
end DE
set_option Elab.async false
set_option linter.all false
set_option maxRecDepth 100000
set_option maxHeartbeats 4000000
namespace DE
open PySem PySem.Spec PyProof.Rows L2 Calls
end DE
set_option Elab.async false
set_option linter.all false
set_option maxRecDepth 100000
set_option maxHeartbeats 4000000
namespace DE
open PySem PySem.Spec PyProof.Rows L2 Calls Builtin Builtin.List
end DE
set_option Elab.async false
set_option linter.all false
set_option maxRecDepth 100000
set_option maxHeartbeats 4000000
namespace DE
open PySem PySem.Spec PyProof.Rows L2 Calls PySem.W
end DE
set_option Elab.async false
set_option linter.all false
set_option maxRecDepth 100000
set_option maxHeartbeats 4000000
namespace DE
open PySem PySem.Spec PyProof.Rows L2 Calls
/-- what is told of such a thing -/
inductive OwnV (K : PySem.W.Frag) (mg : Str → Option Value) (H : Hp) : V → Str → Prop
  | one {p q : Str} {n : Nat} {a : Addr} (o : OwnH K mg p q n H a) : OwnV K mg H (.ref a) (ownText p q n)
  | lst {p q : Str} {n : Nat} {a b : Addr} (o : OwnH K mg p q n H a) (h : SqL K H b [.ref a]) : OwnV K mg H (.ref b) (PySem.listText [ownText p q n])
  | tup {p q : Str} {n : Nat} {a b : Addr} (o : OwnH K mg p q n H a) (h : H b = some (.tup [.ref a])) : OwnV K mg H (.ref b) (PySem.tupleText [ownText p q n])
end DE
set_option Elab.async false
set_option linter.all false
set_option maxRecDepth 100000
set_option maxHeartbeats 4000000
namespace DE
open PySem PySem.Spec PyProof.Rows L2 L2H Calls
/-- a class's number, the text ahead, the field whose length stands there, the text behind -/
abbrev RTab : Type := List (Nat × List Nat × Nat × List Nat)
/-- what is known of the classes -/
structure RpN (G : GX) (RT : RTab) : Prop where
  cl : ∀ c t, RT.lookup c = some t → t.1.length ≤ 400 ∧ t.2.2.length ≤ 400 ∧ t.2.1 < G.W.nn ∧ ∀ C, G.W.cls c = some C → ∃ g, OwnR G.W.K C g ∧ Rep1 G.W.K g (SX.S t.1) (G.W.nm t.2.1) (SX.S t.2.2)
  ln : G.mg "len" = none
  rp : G.mg "repr" = none
  inj : Inj G.W
end DE
set_option Elab.async false
set_option linter.all false
set_option maxRecDepth 100000
set_option maxHeartbeats 4000000
namespace DE
open PySem PySem.Spec L2
mutual
/-- a bound of what repr writes; great ints and strange signs cost2 too much -/
def cost2 : D → Nat
  | .int i => if i.natAbs < 10 ^ 100 then 400 else 2000000
  | .str s => if s.all (fun c => Nat.blt c 1114112) then s.length else 2000000
  | .lst ds => cost2L ds
  | .tup ds => cost2L ds
  | .itp _ => 2000000
  | _ => 0
def cost2L : List D → Nat
  | [] => 0
  | d :: ds => cost2 d + 1 + cost2L ds
end
mutual
theorem cost2_ok : ∀ d : D, isD d = true → cost2 d ≤ 150000 → PyData.canLay0 (toPy d) = true ∧ PyData.weight (toPy d) ≤ cost2 d ∧ PyData.intsShort 101 (toPy d) = true ∧ PyData.showable (toPy d) = true
  | .non, _, _ => ⟨rfl, Nat.le_refl _, rfl, rfl⟩
  | .bl _, _, _ => ⟨rfl, Nat.le_refl _, rfl, rfl⟩
  | .int i, _, h => by
    by_cases hi : i.natAbs < 10 ^ 100
    · have hl : i.natAbs.log2 < 333 := by
        by_cases h0 : i.natAbs = 0
        · rw [h0]; decide
        · exact (Nat.log2_lt h0).mpr (Nat.lt_of_lt_of_le hi (by decide +kernel))
      refine ⟨rfl, ?_, ?_, ?_⟩
      · simp only [toPy, PyData.weight, cost2, if_pos hi]
        split <;> omega
      · have h1 := int_text_length_le10 (a := i) (k := 100) (by decide) hi
        have h2 : (Str.ofString (toString i)).length ≤ 101 := by rw [ofString_length]; omega
        simp only [toPy, PyData.intsShort, PyData.shown]
        exact decide_eq_true h2
      · simp only [toPy, PyData.showable, decide_eq_true_eq]; omega
    · simp only [cost2, if_neg hi] at h; omega
  | .str s, _, h => by
    by_cases hs : s.all (fun c => Nat.blt c 1114112) = true
    · simp only [cost2, if_pos hs] at h ⊢
      refine ⟨?_, ?_, rfl, rfl⟩
      · have : (SX.S s).cps.all (fun c => decide (c < 1114112)) = true := by
          rw [Array.all_eq_true_iff_forall_mem]
          intro c hc
          have hc : c ∈ s := by simpa using hc
          have := List.all_eq_true.mp hs c hc
          exact decide_eq_true (Nat.le_of_ble_eq_true this)
        simp only [toPy, PyData.canLay0, PyData.strOk]
        exact this
      · simp [toPy, PyData.weight]
    · simp only [cost2, if_neg hs] at h; omega
  | .lst ds, hd, h => by
    obtain ⟨a, b, c, d⟩ := cost2L_ok ds (by simpa [isD] using hd) (by simpa [cost2] using h)
    simp only [toPy, cost2, PyData.canLay0, PyData.weight, PyData.intsShort, PyData.showable]
    exact ⟨a, b, c, d⟩
  | .tup ds, hd, h => by
    obtain ⟨a, b, c, d⟩ := cost2L_ok ds (by simpa [isD] using hd) (by simpa [cost2] using h)
    simp only [toPy, cost2, PyData.canLay0, PyData.weight, PyData.intsShort, PyData.showable]
    exact ⟨a, b, c, d⟩
  | .ins _ _, hd, _ => by simp [isD] at hd
  | .han _, hd, _ => by simp [isD] at hd
  | .bor _, hd, _ => by simp [isD] at hd
  | .brw _, hd, _ => by simp [isD] at hd
  | .fn _, hd, _ => by simp [isD] at hd
  | .ftp _, hd, _ => by simp [isD] at hd
  | .dic _, hd, _ => by simp [isD] at hd
  | .exc _ _, hd, _ => by simp [isD] at hd
  | .clo _ _, hd, _ => by simp [isD] at hd
  | .clc _ _ _, hd, _ => by simp [isD] at hd
  | .itp _, _, h => by simp [cost2] at h
theorem cost2L_ok : ∀ ds : List D, isDL ds = true → cost2L ds ≤ 150000 → PyData.canLayAll0 (toPyL ds) = true ∧ PyData.weightAll (toPyL ds) ≤ cost2L ds ∧ PyData.intsShortAll 101 (toPyL ds) = true ∧ PyData.showableAll (toPyL ds) = true
  | [], _, _ => ⟨rfl, Nat.le_refl _, rfl, rfl⟩
  | d :: ds, hd, h => by
    simp only [isDL, Bool.and_eq_true] at hd
    simp only [cost2L] at h ⊢
    obtain ⟨a, b, c, e⟩ := cost2_ok d hd.1 (by omega)
    obtain ⟨a', b', c', e'⟩ := cost2L_ok ds hd.2 (by omega)
    simp only [toPyL, PyData.canLayAll0, PyData.weightAll, PyData.intsShortAll, PyData.showableAll, a, a', c, c', e, e', Bool.and_self, true_and, and_true]
    omega
end
end DE
set_option Elab.async false
set_option linter.all false
set_option maxRecDepth 100000
set_option maxHeartbeats 4000000
namespace DE
open PySem PySem.Spec PyProof.Rows L2 L2H Calls
def encK : Key → PyData
  | .inl i => .int i
  | .inr x => .str x
theorem key_reads {h : Heap} : ∀ (k : Key) (key : Value), keyIs k key = true → Reads h key (encK k) [] := fun k key e => by
  rcases keyIs_shape e with ⟨i, t, rfl, rfl⟩ | ⟨x, t, rfl, rfl⟩
  · exact .int i t
  · exact .str x t
end DE
set_option Elab.async false
set_option linter.all false
set_option maxRecDepth 100000
set_option maxHeartbeats 4000000
namespace DE
open PySem PySem.Spec PyProof.Rows L2 LamX
/-- what a def makes within: a lambda, or the def serves -/
def lamS (d : Str) : Str := if d == ("reasons_for" : Str) then "serves" else if d == ("struck" : Str) then "serves" else "<lambda>"
def lamN (d : Str) : Str := (d ++ ".<locals>.") ++ lamS d
def lamT (K : PySem.W.Frag) (ds : List Str) : List (Addr × Str) := ds.map fun d => ((He.cT K (d, none)).2, lamN d)
end DE
namespace DE
theorem nE_e {G : GX} {lv : Nat} {a : XE} : needE G lv (XE.e a) = ExtX G lv a.sh (okE a.sem) := by
  unfold XE.e needE; rfl
end DE
set_option Elab.async false
set_option linter.all false
set_option maxRecDepth 100000
set_option maxHeartbeats 4000000
namespace KK
open PySem DE
end KK
set_option Elab.async false
set_option linter.all false
set_option maxRecDepth 100000
set_option maxHeartbeats 4000000
namespace DE
open PySem PySem.Spec PyProof.Rows L2
end DE
set_option Elab.async false
set_option linter.all false
set_option maxRecDepth 100000
set_option maxHeartbeats 4000000
namespace DE
open PySem PySem.Spec PyProof.Rows L2 L2H
theorem kitb_ok {K : PySem.W.Frag} {cn : List (Nat × Str)} {kb : List (String × List Nat)} (h : kitbB K cn kb = true) {cls : Nat → Option Addr} (hc : ∀ c C, cls c = some C → ∃ p ∈ cn, p.1 = c ∧ He.ga K p.2 = C) {T : String} {l : List Nat} (ht : (T, l) ∈ kb) {c : Nat} {C : Addr} (e : cls c = some C) : PySem.W.kitOne K (.ref C) (.type T) = some (tbx l c) := by
  obtain ⟨p, hp, rfl, rfl⟩ := hc c C e
  exact of_decide_eq_true (List.all_eq_true.mp (List.all_eq_true.mp h _ ht) p hp)
end DE
set_option Elab.async false
set_option linter.all false
set_option maxRecDepth 100000
set_option maxHeartbeats 4000000
namespace KK
open PySem DE
end KK
set_option Elab.async false
set_option linter.all false
set_option maxRecDepth 100000
set_option maxHeartbeats 4000000
namespace DE
open PySem PySem.Spec PyProof.Rows L2
end DE
set_option Elab.async false
set_option linter.all false
set_option maxRecDepth 100000
set_option maxHeartbeats 4000000
namespace PySem.W
open PySem PySem.Spec PySem.Calls PyProof.Rows
end PySem.W
namespace DE
open PySem PySem.Spec PyProof.Rows L2
end DE
set_option Elab.async false
set_option linter.all false
set_option maxRecDepth 100000
set_option maxHeartbeats 4000000
namespace DE
open PySem PySem.Spec PyProof.Rows L2
end DE
set_option Elab.async false
set_option linter.all false
set_option maxRecDepth 100000
set_option maxHeartbeats 4000000
namespace DE
open PySem PySem.Spec PyProof.Rows L2
end DE
set_option Elab.async false
set_option linter.all false
set_option maxRecDepth 100000
set_option maxHeartbeats 4000000
namespace PySem.W
open PySem PySem.Spec PySem.Calls PyProof.Rows
end PySem.W
namespace DE
open PySem PySem.Spec PyProof.Rows L2
/-- a class without a truth of its own -/
structure NoBool (K : PySem.W.Frag) (C : Addr) : Prop where
  b : PySem.W.findIn K (.ref C) "__bool__" = some none
  l : PySem.W.findIn K (.ref C) "__len__" = some none
end DE
set_option Elab.async false
set_option linter.all false
set_option maxRecDepth 100000
set_option maxHeartbeats 4000000
namespace DE
open PySem PySem.Spec PyProof.Rows L2
/-- a property of class c -/
structure Prp (P : Program) (w : World) (K : PySem.W.Frag) (mg : Str → Option Value) (base : Heap) (W : Wd) (k : Nat) (c : Nat) (f : Str) (g : Fn) : Prop where
  ex : ∃ (C p gg : Addr) (fd : FuncData) (ps : List Str), FnG P w K mg base k gg fd ps (spD W 1 g) ∧ W.cls c = some C ∧ PropOf K C f p gg ∧ Binds K fd ps []
end DE
set_option Elab.async false
set_option linter.all false
set_option maxRecDepth 100000
set_option maxHeartbeats 4000000
namespace DXId
open PySem PySem.Spec PyProof.Rows PySem.SeqAt
end DXId
namespace DE
open PySem PySem.Spec PyProof.Rows L2
/-- a class whose objects are compared by identity -/
structure NoEq (K : PySem.W.Frag) (C : Addr) : Prop where
  m : PySem.W.mroIn K C (.type "object") = some true
  e : PySem.W.findIn K (.ref C) "__eq__" = some (some (.builtin "object.__eq__"))
  n : PySem.W.findIn K (.ref C) "__ne__" = some (some (.builtin "object.__ne__"))
end DE
set_option Elab.async false
set_option linter.all false
set_option maxRecDepth 100000
set_option maxHeartbeats 4000000
namespace DE
open PySem PySem.Spec PyProof.Rows L2
structure MakKw (P : Program) (w : World) (K : PySem.W.Frag) (mg : Str → Option Value) (base : Heap) (W : Wd) (k : Nat) (x : Str) (c n : Nat) (g : Fn) (ks : List Str) (pm : List Nat) : Prop where
  ex : ∃ (C f : Addr) (fd : FuncData) (ps : List Str), FnG P w K mg base k f fd ps (spD W (n + 1) g) ∧ mg x = some (.ref C) ∧ Mk K C f ∧ W.cls c = some C ∧ Cls K C ∧
    ∀ (s : Shared) (self : Value) (ws as : List Value), ws.length = ks.length → pick ws pm = some as → BindsTo s fd ⟨[self], ks.zip ws⟩ (ps.zip (self :: as))
end DE
set_option Elab.async false
set_option linter.all false
set_option maxRecDepth 100000
set_option maxHeartbeats 4000000
namespace DE
open PySem PySem.Spec PyProof.Rows L2
end DE
set_option Elab.async false
set_option linter.all false
set_option maxRecDepth 100000
set_option maxHeartbeats 4000000
namespace DE
open PySem PySem.Spec PyProof.Rows L2 L2H
end DE
set_option Elab.async false
set_option linter.all false
set_option maxRecDepth 100000
set_option maxHeartbeats 4000000
namespace DE
open PySem PySem.Spec PyProof.Rows L2
mutual
def thw : D → D
  | .ftp ss => .tup (ss.map D.str)
  | .lst ds => .lst (thwL ds)
  | .tup ds => .tup (thwL ds)
  | d => d
def thwL : List D → List D
  | [] => []
  | d :: ds => thw d :: thwL ds
end
theorem strs_dp {K : PySem.W.Frag} {H : Hp} : ∀ ss : List (List Nat), DpAll K H (ss.map fun s => V.str (SX.S s)) (toPyL (ss.map D.str))
  | [] => .nil
  | s :: ss => .cons (.str _) (strs_dp ss)
mutual
theorem rep_dpF {W : Wd} {ι : List Addr} {H : Hp} : ∀ (d : D) {v : V}, Rep W ι H d v → isD (thw d) = true → Dp W.K H v (toPy (thw d))
  | .non, v, r, h => by unfold thw at h ⊢; exact rep_dp _ r h
  | .bl b, v, r, h => by unfold thw at h ⊢; exact rep_dp _ r h
  | .int i, v, r, h => by unfold thw at h ⊢; exact rep_dp _ r h
  | .str s, v, r, h => by unfold thw at h ⊢; exact rep_dp _ r h
  | .lst ds, v, r, h => by
    unfold thw at h ⊢
    unfold Rep at r
    obtain ⟨_, a, xs, rfl, f, rl⟩ := r
    unfold isD at h
    exact .lst f.sq (repL_dpF ds rl h)
  | .tup ds, v, r, h => by
    unfold thw at h ⊢
    unfold Rep at r
    obtain ⟨_, a, xs, rfl, f, rl⟩ := r
    unfold isD at h
    exact .tup (SqT.of f) (repL_dpF ds rl h)
  | .ins _ _, _, _, h => by unfold thw at h; cases h
  | .han _, _, _, h => by unfold thw at h; cases h
  | .bor _, _, _, h => by unfold thw at h; cases h
  | .brw _, _, _, h => by unfold thw at h; cases h
  | .fn _, _, _, h => by unfold thw at h; cases h
  | .dic _, _, _, h => by unfold thw at h; cases h
  | .exc _ _, _, _, h => by unfold thw at h; cases h
  | .clo _ _, _, _, h => by unfold thw at h; cases h
  | .clc _ _ _, _, _, h => by unfold thw at h; cases h
  | .itp ns, v, r, h => by unfold thw at h ⊢; exact rep_dp _ r h
  | .ftp ss, v, r, _ => by
    unfold thw
    unfold Rep at r
    obtain ⟨_, _, a, o, rfl, f, _⟩ := r
    exact .tup (.inl (.inr ⟨o, f⟩)) (strs_dp ss)
theorem repL_dpF {W : Wd} {ι : List Addr} {H : Hp} : ∀ (ds : List D) {vs : List V}, RepL W ι H ds vs → isDL (thwL ds) = true → DpAll W.K H vs (toPyL (thwL ds))
  | [], _, r, _ => by unfold RepL at r; subst r; exact .nil
  | d :: ds, _, r, h => by
    unfold RepL at r
    obtain ⟨v, r', rfl, p, r1, r2⟩ := r
    unfold thwL at h ⊢
    unfold isDL at h
    rw [Bool.and_eq_true] at h
    exact .cons (rep_dpF d r1 h.1) (repL_dpF ds r2 h.2)
end
end DE
set_option Elab.async false
set_option linter.all false
set_option maxRecDepth 100000
set_option maxHeartbeats 4000000
namespace DE
open PySem PySem.Spec PyProof.Rows L2
end DE
set_option Elab.async false
set_option linter.all false
set_option maxRecDepth 100000
set_option maxHeartbeats 4000000
namespace DE
open PySem PySem.Spec PyProof.Rows L2
def m0 (f : D → Option D) : D → List D → Option D := fun x ds => (match ds with | [] => f x | _ => none)
end DE
set_option Elab.async false
set_option linter.all false
set_option maxRecDepth 100000
set_option maxHeartbeats 4000000
namespace DE
open PySem PySem.Spec PyProof.Rows L2
end DE
set_option Elab.async false
set_option linter.all false
set_option maxRecDepth 100000
set_option maxHeartbeats 4000000
namespace DXEq
open PySem PySem.Spec PyProof.Rows PySem.SeqAt
end DXEq
namespace DE
open PySem PySem.Spec PyProof.Rows L2
/-- a class with an own __eq__ and no own __ne__ -/
structure EqC (K : PySem.W.Frag) (C : Addr) : Prop where
  m : PySem.W.mroIn K C (.type "object") = some true
  n : PySem.W.findIn K (.ref C) "__ne__" = some (some (.builtin "object.__ne__"))
end DE
set_option Elab.async false
set_option linter.all false
set_option maxRecDepth 100000
set_option maxHeartbeats 4000000
namespace DE
open PySem PySem.Spec PyProof.Rows L2
end DE
set_option Elab.async false
set_option linter.all false
set_option maxRecDepth 100000
set_option maxHeartbeats 4000000
namespace DE
open PySem PySem.Spec PyProof.Rows L2
end DE
set_option Elab.async false
set_option linter.all false
set_option maxRecDepth 100000
set_option maxHeartbeats 4000000
namespace L2
open PySem PySem.Spec PyProof.Rows
end L2
set_option Elab.async false
set_option linter.all false
set_option maxRecDepth 100000
set_option maxHeartbeats 4000000
namespace DE
open PySem PySem.Spec PyProof.Rows L2
end DE
set_option Elab.async false
set_option linter.all false
set_option maxRecDepth 100000
set_option maxHeartbeats 4000000
namespace DE
open PySem PySem.Spec PyProof.Rows L2 L2H LamX
def rhoC1 (n : Nat) (sl : Option Nat) (d1 : D) (a : Addr) : Rho := match sl with
  | none => (List.replicate n none).set 1 (some (.imm d1))
  | some i => ((List.replicate n none).set 1 (some (.imm d1))).set i (some (.obj a))
def catchF1 (n : Nat) (d1 : D) : List Cl → Addr → Nat → List (Nat × D) → Store → Option (D × Store)
  | [], _, _, _, _ => none
  | k :: r, a, c, fs, S => if k.tb c = true then endC (evSs (k.tr a c fs) (rhoC1 n k.sl d1 a, S)) else catchF1 n d1 r a c fs S
end DE
set_option Elab.async false
set_option linter.all false
set_option maxRecDepth 100000
set_option maxHeartbeats 4000000
namespace DE
open PySem PySem.Spec PyProof.Rows L2 L2H LamX
end DE
set_option Elab.async false
set_option linter.all false
set_option maxRecDepth 100000
set_option maxHeartbeats 4000000
namespace DE
open PySem PySem.Spec PyProof.Rows L2 L2H LamX
/-- the catcher x: its text's clauses, what it gives -/
structure Tells1 (G : GX) (lv : Nat) (x : Str) (isx : Nat → Bool) (rest : D → Store → Option (D × Store)) (cF : D → Nat → List (Nat × D) → Store → Option (D × Store)) : Prop where
  ex : ∃ (a b : Str) (g : Addr) (pg : Arguments) (st : Stmt) (h0 : ExceptHandler) (hds : List ExceptHandler) (restS : List Stmt) (pos : Pos) (sg : Scope) (fd : FuncData) (N : List Str) (tkk : TK) (l : List Cl) (rs : Ss),
    FunD G.W.K x x pg (.Try [st] (h0 :: hds) [] [] pos :: restS) sg [] [] g fd ∧ G.mg x = some (.ref g) ∧ FnScope N [a, b] sg ∧ Binds G.W.K fd [a, b] [] ∧ nodbg a = true ∧ tkB N sg a tkk st = true ∧ HdC (G.at_ (x ++ ".<locals>.")) lv N sg isx (h0 :: hds) l ∧ (∀ d1 a c fs S r, cF d1 c fs S = some r → catchF1 N.length d1 l a c fs S = some r) ∧ (∀ k ∈ l, k.sl ≠ some 1) ∧
    chkSs N sg rs restS = true ∧ needSs (G.at_ (x ++ ".<locals>.")) lv rs ∧ CdOk (G.at_ (x ++ ".<locals>.")) fd.code ∧ rest = restF N.length rs tkk
  isx : ∀ c C, isx c = true → G.W.cls c = some C → ExT G.W.K C
end DE
set_option Elab.async false
set_option linter.all false
set_option maxRecDepth 100000
set_option maxHeartbeats 4000000
namespace DE
open PySem PySem.Spec PyProof.Rows L2 LamX
end DE
namespace DE
open PySem PySem.Spec PyProof.Rows L2
end DE
namespace DE
open PySem PySem.Spec PyProof.Rows L2
end DE
set_option Elab.async false
set_option linter.all false
set_option maxRecDepth 100000
set_option maxHeartbeats 4000000
namespace DE
open PySem PySem.Spec PyProof.Rows L2
end DE
set_option Elab.async false
set_option linter.all false
set_option maxRecDepth 100000
set_option maxHeartbeats 4000000
namespace DE
open PySem PySem.Spec L2
end DE
set_option Elab.async false
set_option linter.all false
set_option maxRecDepth 100000
set_option maxHeartbeats 4000000
namespace DE
open PySem PySem.Spec PyProof.Rows L2 L2H CwR
end DE
set_option Elab.async false
set_option linter.all false
set_option maxRecDepth 100000
set_option maxHeartbeats 4000000
namespace DE
open PySem PySem.Spec PyProof.Rows L2
/-- the abstract heap with these cells in it -/
def lendH (H : Hp) (cs : List (Addr × Obj)) : Hp := fun b => match cs.lookup b with
  | some o => some (.frz o (.own b))
  | none => H b
section
variable {P : Program} {w : World} {H H' : Hp} {h h' : Heap} {a b : Addr} {cs : List (Addr × Obj)}
theorem lendH_in {o : Obj} (e : cs.lookup b = some o) : lendH H cs b = some (.frz o (.own b)) := by unfold lendH; rw [e]
theorem lendH_out (e : cs.lookup b = none) : lendH H cs b = H b := by unfold lendH; rw [e]
theorem CanLend.le (l : CanLend H h cs) {u : HO} (e : H b = some u) : lendH H cs b = some u := by rw [lendH_out (l.out e), e]
/-- a thing is held by any abstract heap that has what is not kept fast -/
theorem objOk_conv (k : ∀ b u, (∀ ob x, u ≠ HO.frz ob x) → H b = some u → H' b = some u) : ∀ {o : HO}, ObjOk P w H h a o → ObjOk P w H' h a o
  | .lst _, x => x
  | .tup _, x => x
  | .dK _, x => x
  | .dT _, x => by
    obtain ⟨h1, h2, xs, p, r⟩ := x
    exact ⟨h1, h2, xs, Paired.mapP p fun a b q => ⟨q.1, k _ _ (fun _ _ e => nomatch e) q.2.1, q.2.2⟩, r⟩
  | .set _ _, x => x
  | .ins _ _ _, x => by
    obtain ⟨h1, r⟩ := x
    exact ⟨k _ _ (fun _ _ e => nomatch e) h1, r⟩
  | .own _, x => x
  | .xd _, x => x
  | .rng _ _, x => x
  | .frz _ u, x => ⟨x.1, objOk_conv k (o := u) x.2⟩
  | .tbl _, x => x
  | .met _ _, x => x
  | .ext _, x => x
theorem HOk.lend (x : HOk P w H h) (l : CanLend H h cs) : HOk P w (lendH H cs) h := fun a o e => by
  cases q : cs.lookup a with
  | some ob =>
    rw [lendH_in q] at e
    obtain rfl := Option.some.inj e
    exact ⟨(l a ob q).2, ⟨ob, (l a ob q).2⟩⟩
  | none =>
    rw [lendH_out q] at e
    exact objOk_conv (fun b u _ e => l.le e) (x a o e)
/-- what was lent is as it was -/
theorem lent_same {fs ex : List Addr} (u : Un fs ex (lendH H cs) H' h h') (x : HOk P w H' h') {o : Obj} (q : cs.lookup b = some o) : h'.get? b = some o :=
  (x b _ (u.frzs b o _ (lendH_in q))).1
theorem HOk.unlend {fs ex : List Addr} (u : Un fs ex (lendH H cs) H' h h') (x : HOk P w H' h') : HOk P w (unlendH cs H') h' := fun a o e => by
  cases q : cs.lookup a with
  | some ob => rw [unlendH_in q] at e; cases e
  | none =>
    rw [unlendH_out q] at e
    refine objOk_conv (fun b v nf e => ?_) (x a o e)
    cases qb : cs.lookup b with
    | some ob =>
      rw [u.frzs b ob _ (lendH_in qb)] at e
      exact absurd (Option.some.inj e).symm (nf _ _)
    | none => rw [unlendH_out qb]; exact e
/-- lending alone changes nothing -/
theorem Un.unlend {fs ex : List Addr} (u : Un fs ex (lendH H cs) H' h h') (l : CanLend H h cs) (x : HOk P w H' h') : Un fs ex H (unlendH cs H') h h' where
  keep b o e n hf hx := by
    cases q : cs.lookup b with
    | some ob =>
      have := (l b ob q).2
      rw [e] at this
      obtain rfl := Option.some.inj this
      exact lent_same u x q
    | none => exact u.keep b o e (by rw [lendH_out q]; exact n) hf hx
  slot b o e n hf hx := by
    cases q : cs.lookup b with
    | some ob =>
      have := (l b ob q).2
      rw [e] at this
      obtain rfl := Option.some.inj this
      exact ⟨o.slots, lent_same u x q⟩
    | none => exact u.slot b o e (by rw [lendH_out q]; exact n) hf hx
  free b o e n hx := by
    cases q : cs.lookup b with
    | some ob => exact unlendH_in q
    | none => rw [unlendH_out q]; exact u.free b o e (by rw [lendH_out q]; exact n) hx
  there b o e hx := u.there b o e hx
  tups b xs e := by rw [unlendH_out (l.out e)]; exact u.tups b xs (l.le e)
  frzs b o v e := by rw [unlendH_out (l.out e)]; exact u.frzs b o v (l.le e)
  tbls b ps e := by rw [unlendH_out (l.out e)]; exact u.tbls b ps (l.le e)
end
end DE
set_option Elab.async false
set_option linter.all false
set_option maxRecDepth 100000
set_option maxHeartbeats 4000000
namespace DE
open PySem PySem.Spec PyProof.Rows L2
section
variable {W : Wd} {ι ι' : List Addr} {H H' : Hp} {h h' : Heap} {cs : List (Addr × Obj)}
theorem kp_lend (l : CanLend H h cs) : Kp ι H ι (lendH H cs) := Kp.same fun b o e => l.le e
theorem StRep.lend {S : List MO} (st : StRep W ι H S) (l : CanLend H h cs) : StRep W ι (lendH H cs) S :=
  st.same (st.tb.same fun b o e => l.le e) (kp_lend l) fun a _ o e => l.le e
theorem Rep.lend {d : D} {v : V} (r : Rep W ι H d v) (p : d.plain = true) (l : CanLend H h cs) : Rep W ι (lendH H cs) d v := r.kp (kp_lend l) p
mutual
/-- it holds no lent closure -/
def noC : D → Bool
  | .lst ds => noCL ds
  | .tup ds => noCL ds
  | .ins _ fs => noCF fs
  | .brw ds => noCL ds
  | .dic kvs => noCD kvs
  | .exc _ fs => noCF fs
  | .clc _ _ _ => false
  | .non => true
  | .bl _ => true
  | .int _ => true
  | .str _ => true
  | .han _ => true
  | .bor _ => true
  | .fn _ => true
  | .ftp _ => true
  | .itp _ => true
  | .clo _ _ => true
def noCL : List D → Bool
  | [] => true
  | d :: ds => noC d && noCL ds
def noCF : List (Nat × D) → Bool
  | [] => true
  | (_, d) :: ds => noC d && noCF ds
def noCD : List (Key × D) → Bool
  | [] => true
  | (_, d) :: ds => noC d && noCD ds
end
end
section
variable {W : Wd} {ι ι' : List Addr} {H H' : Hp} {h h' : Heap} {cs : List (Addr × Obj)}
theorem obj_nocell {q : CloK} {cs : List (Str × Addr)} {c : Addr} {o : Obj} (x : q.obj cs c o) (v : Option Value) : o.data ≠ .cell v := by
  unfold CloK.obj at x
  replace x := x.2
  split at x
  · obtain ⟨pm, ctv, rfl⟩ := x
    intro z; cases z
  · obtain ⟨od, sl, doc, pm, ctv, rfl⟩ := x
    intro z; cases z
mutual
theorem Rep.cf (k : Cf H H') : ∀ (d : D) {v : V}, Rep W ι H d v → noC d = true → Rep W ι H' d v
  | .non, _, r, _ => by unfold Rep at r ⊢; exact r
  | .bl _, _, r, _ => by unfold Rep at r ⊢; exact r
  | .int _, _, r, _ => by unfold Rep at r ⊢; exact r
  | .str _, _, r, _ => by unfold Rep at r ⊢; exact r
  | .fn _, _, r, _ => by unfold Rep at r ⊢; exact r
  | .han _, _, r, _ => by unfold Rep at r ⊢; exact r
  | .bor _, _, r, _ => by unfold Rep at r ⊢; exact r
  | .ftp _, _, r, _ => by
    unfold Rep at r ⊢
    obtain ⟨l, l2, a, o, e, f, n⟩ := r
    exact ⟨l, l2, a, o, e, k.of f (by intro _ _ z; cases z), n⟩
  | .itp _, _, r, _ => by
    unfold Rep at r ⊢
    obtain ⟨l, a, o, e, f, n⟩ := r
    exact ⟨l, a, o, e, k.of f (by intro _ _ z; cases z), n⟩
  | .dic kvs, v, r, h => by
    unfold Rep at r ⊢
    obtain ⟨l, a, o, kv, e, f, rd⟩ := r
    exact ⟨l, a, o, kv, e, k.of f (by intro _ _ z; cases z), RepD.cf k kvs rd (by unfold noC at h; exact h)⟩
  | .exc c fs, v, r, h => by
    unfold Rep at r ⊢
    obtain ⟨a, o, C, fvs, e, hc, ha, h1, ⟨vs, h2⟩, h3, rf⟩ := r
    refine ⟨a, o, C, fvs, e, hc, k _ _ ha ?_, h1, ⟨vs, h2⟩, k.xd h3, RepF.cf k fs rf (by unfold noC at h; exact h)⟩
    intro o1 x v z hz
    cases z
    rw [h2] at hz; cases hz
  | .clo n cs, v, r, _ => by
    unfold Rep at r ⊢
    obtain ⟨a, o, c, q, e, hq, ha, ho, hc⟩ := r
    refine ⟨a, o, c, q, e, hq, k _ _ ha ?_, ho, k.code hc⟩
    intro o1 x v z
    cases z
    exact obj_nocell ho v
  | .clc _ _ _, _, _, h => by unfold noC at h; cases h
  | .lst ds, v, r, h => by
    unfold Rep at r ⊢
    obtain ⟨l, a, xs, e, f, rl⟩ := r
    exact ⟨l, a, xs, e, k.fz f, RepL.cf k ds rl (by unfold noC at h; exact h)⟩
  | .tup ds, v, r, h => by
    unfold Rep at r ⊢
    obtain ⟨l, a, xs, e, f, rl⟩ := r
    exact ⟨l, a, xs, e, k.of f (by intro _ _ z; cases z), RepL.cf k ds rl (by unfold noC at h; exact h)⟩
  | .brw ds, v, r, h => by
    unfold Rep at r ⊢
    obtain ⟨l, a, xs, e, f, n, rl⟩ := r
    exact ⟨l, a, xs, e, k.of f (by intro _ _ z; cases z), n, RepL.cf k ds rl (by unfold noC at h; exact h)⟩
  | .ins c fs, v, r, h => by
    unfold Rep at r ⊢
    obtain ⟨a, C, dx, fvs, e, hc, ha, n, cl, rf⟩ := r
    exact ⟨a, C, dx, fvs, e, hc, k.of ha (by intro _ _ z; cases z), n, cl, RepF.cf k fs rf (by unfold noC at h; exact h)⟩
theorem RepL.cf (k : Cf H H') : ∀ (ds : List D) {vs : List V}, RepL W ι H ds vs → noCL ds = true → RepL W ι H' ds vs
  | [], _, r, _ => by unfold RepL at r ⊢; exact r
  | d :: ds, _, r, h => by
    unfold RepL at r ⊢
    obtain ⟨v, us, e, p, r1, r2⟩ := r
    unfold noCL at h
    rw [Bool.and_eq_true] at h
    exact ⟨v, us, e, p, Rep.cf k d r1 h.1, RepL.cf k ds r2 h.2⟩
theorem RepD.cf (k : Cf H H') : ∀ (ds : List (Key × D)) {vs : List (Key × V)}, RepD W ι H ds vs → noCD ds = true → RepD W ι H' ds vs
  | [], _, r, _ => by unfold RepD at r ⊢; exact r
  | (n, d) :: ds, _, r, h => by
    unfold RepD at r ⊢
    obtain ⟨v, us, e, p, r1, r2⟩ := r
    unfold noCD at h
    rw [Bool.and_eq_true] at h
    exact ⟨v, us, e, p, Rep.cf k d r1 h.1, RepD.cf k ds r2 h.2⟩
theorem RepF.cf (k : Cf H H') {C : Addr} : ∀ (ds : List (Nat × D)) {vs : List (Str × V)}, RepF W ι H C ds vs → noCF ds = true → RepF W ι H' C ds vs
  | [], _, r, _ => by unfold RepF at r ⊢; exact r
  | (n, d) :: ds, _, r, h => by
    unfold RepF at r ⊢
    obtain ⟨v, us, e, l, na, p, r1, r2⟩ := r
    unfold noCF at h
    rw [Bool.and_eq_true] at h
    exact ⟨v, us, e, l, na, p, Rep.cf k d r1 h.1, RepF.cf k ds r2 h.2⟩
end
def noCM : MO → Bool
  | .lst ds => noCL ds
  | .ins _ fs => noCF fs
  | .dT kvs => kvs.all fun kv => noC kv.2
  | .dK kvs => kvs.all fun kv => noC kv.2
theorem repT_cf (k : Cf H H') {κ : Type} : ∀ {a : List (κ × D)} {b : List (κ × V)}, RepT W ι H a b → (a.all fun kv => noC kv.2) = true → RepT W ι H' a b
  | _, _, .nil, _ => .nil
  | _, _, .cons h t, q => by
    rw [List.all_cons, Bool.and_eq_true] at q
    exact .cons ⟨h.1, h.2.1, Rep.cf k _ h.2.2 q.1⟩ (repT_cf k t q.2)
theorem MRep.cf (k : Cf H H') {a : Addr} : ∀ {m : MO}, MRep W ι H a m → noCM m = true → MRep W ι H' a m
  | .lst _, h, q => by obtain ⟨l, xs, e, r⟩ := h; exact ⟨l, xs, k.of e (by intro _ _ z; cases z), RepL.cf k _ r q⟩
  | .ins _ _, h, q => by obtain ⟨C, dx, fvs, c, e, cl, r⟩ := h; exact ⟨C, dx, fvs, c, k.of e (by intro _ _ z; cases z), cl, RepF.cf k _ r q⟩
  | .dT _, h, q => by obtain ⟨l, xs, e, r⟩ := h; exact ⟨l, xs, k.of e (by intro _ _ z; cases z), repT_cf k r q⟩
  | .dK _, h, q => by obtain ⟨l, xs, e, r⟩ := h; exact ⟨l, xs, k.of e (by intro _ _ z; cases z), repT_cf k r q⟩
theorem Tbs.cf (k : Cf H H') (t : Tbs W H) : Tbs W H' := fun q hq => by
  obtain ⟨ps, h1, h2, h3⟩ := t q hq
  refine ⟨ps, k.of h1 (by intro _ _ z; cases z), h2, fun pos cv hc => ?_⟩
  obtain ⟨c, e1, e2⟩ := h3 pos cv hc
  exact ⟨c, e1, k.code e2⟩
theorem StRep.cf (k : Cf H H') {S : List MO} (st : StRep W ι H S) (n : S.all noCM = true) : StRep W ι H' S :=
  ⟨st.tb.cf k, st.len, st.nd, fun i m a e1 e2 => (st.at_ i m a e1 e2).cf k (List.all_eq_true.mp n m (List.mem_of_getElem? e1))⟩
/-- the frame's own view of the call: no cell was lent -/
theorem CKp.unlend (c : CKp ι (lendH H cs) ι' H') (l : CanLend H h cs) (ni : ∀ a ∈ ι', cs.lookup a = none) : CKp ι H ι' (unlendH cs H') where
  pre := c.pre
  new a ha hn := by
    have := c.new a ha hn
    rw [lendH_out (ni a ha)] at this
    exact this
  keep b o e n := by
    rw [unlendH_out (l.out e)]
    exact c.keep b o (l.le e) n
end
end DE
set_option Elab.async false
set_option linter.all false
set_option maxRecDepth 100000
set_option maxHeartbeats 4000000
namespace DE
open PySem PySem.Spec PyProof.Rows L2
/-- the frame's cells with what stands there -/
def cellObjs (env : Env) (h : Heap) : List (Addr × Obj) := env.cells.filterMap fun p => if env.cells.lookup p.1 = some p.2 then (h.get? p.2).map fun o => (p.2, o) else none
theorem lookup_mem {α β : Type} [BEq α] [LawfulBEq α] {a : α} {b : β} : ∀ {l : List (α × β)}, l.lookup a = some b → (a, b) ∈ l
  | [], e => by cases e
  | (x, y) :: l, e => by
    rw [List.lookup_cons] at e
    split at e
    · rename_i h
      cases e
      rw [eq_of_beq h]; exact List.mem_cons_self ..
    · exact List.mem_cons_of_mem _ (lookup_mem e)
theorem lookup_some_of_mem {α β : Type} [BEq α] [LawfulBEq α] {a : α} {b : β} : ∀ {l : List (α × β)}, (a, b) ∈ l → ∃ b', l.lookup a = some b'
  | [], e => by cases e
  | (x, y) :: l, e => by
    rw [List.lookup_cons]
    split
    · exact ⟨_, rfl⟩
    · rename_i h
      rcases List.mem_cons.mp e with e | e
      · cases e; simp at h
      · exact lookup_some_of_mem e
theorem cellObjs_mem {env : Env} {h : Heap} {c : Addr} {o : Obj} (e : (c, o) ∈ cellObjs env h) : (∃ x, env.cells.lookup x = some c) ∧ h.get? c = some o := by
  unfold cellObjs at e
  obtain ⟨⟨x, c'⟩, m, q⟩ := List.mem_filterMap.mp e
  split at q
  · rename_i hl
    cases g : h.get? c' with
    | none => rw [g] at q; cases q
    | some o' =>
      rw [g] at q
      cases q
      exact ⟨⟨x, hl⟩, g⟩
  · cases q
theorem cellObjs_at {env : Env} {h : Heap} {x : Str} {c : Addr} {o : Obj} (e : env.cells.lookup x = some c) (g : h.get? c = some o) : (cellObjs env h).lookup c = some o := by
  have m : (c, o) ∈ cellObjs env h := by
    unfold cellObjs
    exact List.mem_filterMap.mpr ⟨(x, c), lookup_mem e, by simp [e, g]⟩
  obtain ⟨o', q⟩ := lookup_some_of_mem m
  have := (cellObjs_mem (lookup_mem q)).2
  rw [g] at this
  cases this
  exact q
section
variable {X : Cx} {k : Nat} {f : Addr} {fd : FuncData} {ps : List Str} {sp : Sp} {E : XK} {x : Str} {p pos : Pos} {e : Expr} {es : List Expr} {t : TA}
  {pins : List (Addr × Obj)} {σ : L2.St} {H : Hp} {s : Shared} {Q Q' : VK} {us : List Value} {vs : List V} {cs : List (Addr × Obj)}
theorem Inv.canLend (I : Inv X pins σ H s) : CanLend H s.heap (cellObjs X.env s.heap) := fun c o e => by
  obtain ⟨⟨x, hx⟩, g⟩ := cellObjs_mem (lookup_mem e)
  exact ⟨I.freeC x c hx, g⟩
theorem Inv.areCells (I : Inv X pins σ H s) : AreCells (cellObjs X.env s.heap) := fun c o e => by
  obtain ⟨⟨x, hx⟩, g⟩ := cellObjs_mem (lookup_mem e)
  obtain ⟨v, o', ho, hd⟩ := I.cell x c hx
  rw [g] at ho; cases ho
  exact ⟨v, hd⟩
/-- the callee begins with the cells lent -/
theorem Inv.env0L (I : Inv X pins σ H s) (hf : ∀ x, X.fn x = true) : Env0 X.prog X.w X.K X.mg X.base X.A X.stack s (lendH H (cellObjs X.env s.heap)) where
  frames := I.ok.frames
  mod := I.ok.mod
  bs b o e := by
    refine ⟨(I.bs b o e).1, ?_⟩
    cases q : (cellObjs X.env s.heap).lookup b with
    | some ob =>
      obtain ⟨⟨x, hx⟩, g⟩ := cellObjs_mem (lookup_mem q)
      have h1 := I.ok.cab x b (hf x) hx
      have h2 := Heap.lt_size e
      have h3 := I.ok.bsz
      exact absurd (Nat.lt_of_lt_of_le h2 (Nat.le_trans h3 h1)) (Nat.lt_irrefl _)
    | none => rw [lendH_out q]; exact (I.bs b o e).2
  bsz := Nat.le_trans I.ok.bsz I.sz
  funs := I.stack
  frf b hb := by
    cases q : (cellObjs X.env s.heap).lookup b with
    | some ob =>
      obtain ⟨⟨x, hx⟩, g⟩ := cellObjs_mem (lookup_mem q)
      rcases List.mem_cons.mp (I.stkSub b hb) with z | z
      · exact absurd z (I.cne x b hx)
      · obtain ⟨_, o, ho, _⟩ := I.ok.funs.mem z
        exact absurd (Nat.lt_of_lt_of_le (Heap.lt_size ho) (I.ok.cab x b (hf x) hx)) (Nat.lt_irrefl _)
    | none => rw [lendH_out q]; exact I.stkFree b hb
  hok := HOk.lend I.hok (Inv.canLend I)
  bare := I.bare
/-- the callee's end, the cells given back -/
theorem CE.unlend {outer : List Env} {P : Program} {w : World} {u : Value} {s' : Shared} (h : CE outer P w (lendH H cs) s Q' u s') (l : CanLend H s.heap cs)
    (hq : ∀ v H2, Q' v H2 → (∀ c o, cs.lookup c = some o → H2 c = some (.frz o (.own c))) → Q v (unlendH cs H2)) : CE outer P w H s Q u s' := by
  obtain ⟨v, H', os, bare, un, hok, r, q⟩ := h
  exact ⟨v, unlendH cs H', os, bare, Un.unlend un l hok, HOk.unlend un hok, r, hq v H' q fun c o e => un.frzs c o _ (lendH_in e)⟩
theorem run_fnL (F : FnG X.prog X.w X.K X.mg X.base k f fd ps sp) (hr : Room k X.A) (hgd : X.A.guards = some []) (hb : Binds X.K fd ps []) (hf : ∀ x, X.fn x = true) (I : Inv X pins σ H s) (r : Vals vs us)
    (h : sp vs (lendH H (cellObjs X.env s.heap)) Q' E)
    (hq : ∀ v H2, Q' v H2 → (∀ c o, (cellObjs X.env s.heap).lookup c = some o → H2 c = some (.frz o (.own c))) → Q v (unlendH (cellObjs X.env s.heap) H2)) :
    wpAny (model X.prog X.w) X.A (call (.ref f) us) (EP X pins σ Q) X.xe s := by
  have hl : (us ++ []).length = ps.length := by rw [List.append_nil, ← r.length]; exact F.len _ _ _ _ h
  have hB := hb s us I.kIn hl
  rw [List.append_nil] at hB
  refine wpAny_call (codeAny_mono (F.run X.A X.stack s (lendH H (cellObjs X.env s.heap)) ⟨us, []⟩ us vs Q' E hr hgd (Inv.env0L I hf) hB r h) fun r s' hq' => ?_)
  cases r with
  | error e => exact hq'.elim
  | ok fl =>
    cases fl with
    | ret u => exact I.after (CE.unlend hq' (Inv.canLend I) hq)
    | next => exact hq'.elim
    | brk => exact hq'.elim
    | cont => exact hq'.elim
end
end DE
set_option Elab.async false
set_option linter.all false
set_option maxRecDepth 100000
set_option maxHeartbeats 4000000
namespace DE
open PySem PySem.Spec PyProof.Rows L2
/-- what slot i holds: lasting data -/
def capD (z : Z) (i : Nat) : Option D := match z.1[i]? with
  | some (some (.imm d)) => some d
  | _ => none
def capAll (z : Z) : List Nat → Option (List D)
  | [] => some []
  | i :: r => (capD z i).bind fun d => (capAll z r).map fun ds => d :: ds
/-- a closure of this frame, lent; any other thing as it is -/
def liftK (ct : Nat → Option (List Nat)) (cl : List (Str × Addr)) (z : Z) : D → Option D
  | .clo k cs => if cs = cl then (ct k).bind fun r => (capAll z r).map fun caps => .clc k cs caps else none
  | d => some d
def liftAll (ct : Nat → Option (List Nat)) (cl : List (Str × Addr)) (z : Z) : List D → Option (List D)
  | [] => some []
  | d :: ds => (liftK ct cl z d).bind fun x => (liftAll ct cl z ds).map fun r => x :: r
/-- an argument, lent -/
def lendX (ct : Nat → Option (List Nat)) (cl : List (Str × Addr)) (z : Z) : D → Option D
  | .bor i => (match z.1[i]? with
    | some (some (.own ds)) => (liftAll ct cl z ds).map D.brw
    | some (some (.brw ds)) => (liftAll ct cl z ds).map D.brw
    | _ => none)
  | .brw _ => none
  | .lst ds => (liftAll ct cl z ds).map D.lst
  | d => liftK ct cl z d
def lendXs (ct : Nat → Option (List Nat)) (cl : List (Str × Addr)) (z : Z) : List D → Option (List D)
  | [] => some []
  | d :: ds => (lendX ct cl z d).bind fun x => (lendXs ct cl z ds).map fun r => x :: r
/-- the slots of a closure's captured names in this frame -/
def CapsAt (X : Cx) (ys : List Str) (r : List Nat) : Prop := Paired (fun y i => X.N[i]? = some y ∧ Vis X.env.scope y ∧ X.env.kindOf y ≠ some .local) ys r
def CtOk (W : Wd) (X : Cx) (ct : Nat → Option (List Nat)) : Prop := ∀ k q r, W.ck.f k q = true → ct k = some r → CapsAt X q.fr r
section
variable {W : Wd} {B : Bs} {ι : List Addr} {X : Cx} {ct : Nat → Option (List Nat)} {pins : List (Addr × Obj)} {σ : L2.St} {H : Hp} {s : Shared} {z : Z}
theorem capAll_rep (I : Inv X pins σ H s) (zr : ZR W B ι H σ z) : ∀ {ys : List Str} {r : List Nat} {caps : List D}, CapsAt X ys r → capAll z r = some caps → RepC W ι (lendH H (cellObjs X.env s.heap)) X.env.cells caps ys
  | _, _, _, .nil, e => by cases e; unfold RepC; rfl
  | y :: ys, i :: r, _, .cons hc t, e => by
    unfold capAll at e
    cases e1 : capD z i with
    | none => rw [e1] at e; cases e
    | some d =>
      rw [e1, Option.bind_some] at e
      cases e2 : capAll z r with
      | none => rw [e2] at e; cases e
      | some ds =>
        rw [e2] at e; cases e
        have q : z.1[i]? = some (some (.imm d)) := by
          unfold capD at e1
          split at e1
          · rename_i d' q; cases e1; exact q
          · cases e1
        obtain ⟨v, hv, p, rv⟩ := zr.slot i _ q
        obtain ⟨m, _, hm⟩ := I.loc
        obtain ⟨u, ru, lk⟩ := hm i y v hc.1 hv hc.2.1
        rcases lk with ⟨z1, _⟩ | ⟨_, c, hcc, o, ho, hd⟩
        · exact absurd z1 hc.2.2
        · unfold RepC
          exact ⟨y, ys, c, o, v, u, rfl, hcc, lendH_in (cellObjs_at hcc ho), hd, ru, p, rv.lend p (Inv.canLend I), capAll_rep I zr t e2⟩
theorem liftK_rep (I : Inv X pins σ H s) (zr : ZR W B ι H σ z) (hct : CtOk W X ct) {d d' : D} {v : V} (p : d.plain = true) (h : Rep W ι H d v) (e : liftK ct X.env.cells z d = some d') : d'.plain = true ∧ Rep W ι (lendH H (cellObjs X.env s.heap)) d' v := by
  cases d with
  | clo k cs =>
    have e : (if cs = X.env.cells then (ct k).bind fun r => (capAll z r).map fun caps => D.clc k cs caps else none) = some d' := e
    split at e
    · rename_i hcs
      cases e1 : ct k with
      | none => rw [e1] at e; cases e
      | some r =>
        rw [e1, Option.bind_some] at e
        cases e2 : capAll z r with
        | none => rw [e2] at e; cases e
        | some caps =>
          rw [e2] at e; cases e
          subst hcs
          refine ⟨rfl, ?_⟩
          unfold Rep at h ⊢
          obtain ⟨a, o, c, q, ev, hq, ha, ho, hc⟩ := h
          exact ⟨a, o, c, q, ev, hq, (Inv.canLend I).le ha, ho, (Inv.canLend I).le hc, capAll_rep I zr (hct k q r hq e1) e2⟩
    · cases e
  | _ => cases e; exact ⟨p, h.lend p (Inv.canLend I)⟩
theorem liftAll_rep (I : Inv X pins σ H s) (zr : ZR W B ι H σ z) (hct : CtOk W X ct) : ∀ {ds ds' : List D} {vs : List V}, RepL W ι H ds vs → liftAll ct X.env.cells z ds = some ds' → RepL W ι (lendH H (cellObjs X.env s.heap)) ds' vs ∧ ds'.length = ds.length
  | [], _, _, r, e => by cases e; unfold RepL at r ⊢; exact ⟨r, rfl⟩
  | d :: ds, _, _, r, e => by
    unfold RepL at r
    obtain ⟨v, us, ev, p, r1, r2⟩ := r
    unfold liftAll at e
    cases e1 : liftK ct X.env.cells z d with
    | none => rw [e1] at e; cases e
    | some x =>
      rw [e1, Option.bind_some] at e
      cases e2 : liftAll ct X.env.cells z ds with
      | none => rw [e2] at e; cases e
      | some y =>
        rw [e2] at e; cases e
        subst ev
        have h1 := liftK_rep I zr hct p r1 e1
        have h2 := liftAll_rep I zr hct r2 e2
        exact ⟨.cons h1.1 h1.2 h2.1, by simp [h2.2]⟩
theorem lendX_rep (I : Inv X pins σ H s) (zr : ZR W B ι H σ z) (hct : CtOk W X ct) {d d' : D} {v : V} (h : XRep W ι H σ d v) (e : lendX ct X.env.cells z d = some d') : Rep W ι (lendH H (cellObjs X.env s.heap)) d' v := by
  cases d with
  | bor i =>
    have hs : σ[i]? = some (some v) := h
    have e : (match z.1[i]? with
      | some (some (.own ds)) => (liftAll ct X.env.cells z ds).map D.brw
      | some (some (.brw ds)) => (liftAll ct X.env.cells z ds).map D.brw
      | _ => none) = some d' := e
    split at e
    · rename_i ds q
      cases e1 : liftAll ct X.env.cells z ds with
      | none => rw [e1] at e; cases e
      | some ds' =>
        rw [e1] at e; cases e
        obtain ⟨u, hu, l, a, xs, ea, ha, _, n, r⟩ := zr.slot i _ q
        rw [hs] at hu; cases hu
        have h2 := liftAll_rep I zr hct r e1
        unfold Rep
        exact ⟨by rw [h2.2]; exact l, a, xs, ea, (Inv.canLend I).le ha, n, h2.1⟩
    · rename_i ds q
      cases e1 : liftAll ct X.env.cells z ds with
      | none => rw [e1] at e; cases e
      | some ds' =>
        rw [e1] at e; cases e
        obtain ⟨u, hu, l, a, xs, ea, ha, _, _, n, r⟩ := zr.slot i _ q
        rw [hs] at hu; cases hu
        have h2 := liftAll_rep I zr hct r e1
        unfold Rep
        exact ⟨by rw [h2.2]; exact l, a, xs, ea, (Inv.canLend I).le ha, n, h2.1⟩
    · cases e
  | brw _ => cases e
  | lst ds =>
    have e : (liftAll ct X.env.cells z ds).map D.lst = some d' := e
    cases e1 : liftAll ct X.env.cells z ds with
    | none => rw [e1] at e; cases e
    | some ds' =>
      rw [e1] at e; cases e
      obtain ⟨p, h⟩ := (show (D.lst ds).plain = true ∧ Rep W ι H (.lst ds) v from h)
      unfold Rep at h ⊢
      obtain ⟨l, a, xs, ev, fz, r⟩ := h
      have h2 := liftAll_rep I zr hct r e1
      exact ⟨by rw [h2.2]; exact l, a, xs, ev, fz.imp (fun ⟨o, q⟩ => ⟨o, (Inv.canLend I).le q⟩) id, h2.1⟩
  | _ => exact (liftK_rep I zr hct h.1 h.2 e).2
theorem lendXs_rep (I : Inv X pins σ H s) (zr : ZR W B ι H σ z) (hct : CtOk W X ct) : ∀ {ds ds' : List D} {vs : List V}, Paired (XRep W ι H σ) ds vs → lendXs ct X.env.cells z ds = some ds' → Paired (Rep W ι (lendH H (cellObjs X.env s.heap))) ds' vs
  | _, _, _, .nil, e => by cases e; exact .nil
  | d :: ds, _, _, .cons r t, e => by
    unfold lendXs at e
    cases e1 : lendX ct X.env.cells z d with
    | none => rw [e1] at e; cases e
    | some x =>
      rw [e1, Option.bind_some] at e
      cases e2 : lendXs ct X.env.cells z ds with
      | none => rw [e2] at e; cases e
      | some y => rw [e2] at e; cases e; exact .cons (lendX_rep I zr hct r e1) (lendXs_rep I zr hct t e2)
end
end DE
set_option Elab.async false
set_option linter.all false
set_option maxRecDepth 100000
set_option maxHeartbeats 4000000
namespace DE
open PySem PySem.Spec PyProof.Rows L2
def fCallL (ct : Nat → Option (List Nat)) (cl : List (Str × Addr)) (n : Nat) (g : Fn) (f : EvA) : Ev := fun z => (f z).bind fun x => (lendXs ct cl x.2 x.1).bind fun ds => if ds.length = n then (g ds x.2.2).bind fun r => if noC r.1 = true ∧ r.2.all noCM = true then some (r.1, (x.2.1, r.2)) else none else none
theorem cf_unlend2 {H : Hp} {H0 : Hp} {cs : List (Addr × Obj)} (hz : ∀ c o, cs.lookup c = some o → H c = some (.frz o (.own c))) (ac : AreCells cs) : Cf H (unlendH cs H) := fun b v e n => by
  cases q : cs.lookup b with
  | some ob =>
    rw [hz b ob q] at e
    obtain ⟨x, hx⟩ := ac b ob q
    exact absurd hx (n _ _ _ (Option.some.inj e).symm)
  | none => rw [unlendH_out q]; exact e
section
variable {X : Cx} {W : Wd} {B : Bs} {ct : Nat → Option (List Nat)}
theorem pe_callL {n k j : Nat} {g : Fn} {f : EvA} {x : Str} {e : Expr} {es : List Expr} {p pos : Pos} (cal : Cal X.prog X.w X.K X.mg X.base W k x n g) (hr : Room j X.A) (hgd : X.A.guards = some []) (hk : k ≤ j) (hf : ∀ x, X.fn x = true) (hct : CtOk W X ct)
    (hg : Gl X x) (ha : PA X (e :: es) (tevA W B f)) (hdb : (x == ("__debug__" : Str)) = false)
    (he : starEach (e :: es) X.env = (false, eval e X.env) :: starEach es X.env) (hpl : (backTo pos (starEach es X.env)).any (·.1) = false) :
    PE X (.Call (.Name x p) (e :: es) [] pos) (tev W B (fCallL ct X.env.cells n g f)) := by
  obtain ⟨fa, fd, ps, F, hm, kp, b⟩ := cal.ex
  refine ⟨fun pins s σ H Q I h => wpAny_Call_Name_kw (ld_glob I hg hm ?_ hdb)⟩
  obtain ⟨ι, z, d, z', zr, e1, kq⟩ := h
  unfold fCallL at e1
  cases ea : f z with
  | none => rw [ea] at e1; cases e1
  | some y =>
    rw [ea, Option.bind_some] at e1
    cases e2 : lendXs ct X.env.cells y.2 y.1 with
    | none => rw [e2] at e1; cases e1
    | some ds =>
      rw [e2, Option.bind_some] at e1
      split at e1
      · rename_i hn
        cases e3 : g ds y.2.2 with
        | none => rw [e3] at e1; cases e1
        | some r =>
          rw [e3, Option.bind_some] at e1
          split at e1
          · rename_i hc
            cases e1
            refine PySem.W.callWith_K (h₀ := X.base) I.ok.mod.kin kp (thn (ha.run pos pins s σ H (fun vs H1 => ∃ ι1, Kp ι H ι1 H1 ∧ Paired (XRep W ι1 H1 σ) y.1 vs ∧ ZR W B ι1 H1 σ y.2) I ⟨ι, z, y.1, y.2, zr, ea, fun vs ι1 H1 k1 r1 zr1 => ⟨ι1, k1, r1, zr1⟩⟩) fun us s1 ⟨vs, H1, I1, rv, ι1, k1, r1, zr1⟩ => ⟨I1.kIn, ?_⟩) he hpl
            refine run_fnL (E := fun _ _ _ => False) (Q' := fun v H2 => ∃ ι2, CKp ι1 (lendH H1 (cellObjs X.env s1.heap)) ι2 H2 ∧ StRep W ι2 H2 r.2 ∧ r.1.plain = true ∧ Rep W ι2 H2 r.1 v) F (hr.mono hk) hgd b hf I1 rv ?_ ?_
            · exact ⟨ι1, y.2.2, ds, r.1, r.2, hn, lendXs_rep I1 zr1 hct r1 e2, zr1.st.lend (Inv.canLend I1), e3, fun v ι2 H2 c2 st2 p rp => ⟨ι2, c2, st2, p, rp⟩⟩
            · intro v H2 ⟨ι2, c2, st2, p, rp⟩ hz
              have cf : Cf H2 (unlendH (cellObjs X.env s1.heap) H2) := cf_unlend2 (H0 := H2) hz (Inv.areCells I1)
              have ni : ∀ a ∈ ι2, (cellObjs X.env s1.heap).lookup a = none := fun a ha => by
                cases q : (cellObjs X.env s1.heap).lookup a with
                | none => rfl
                | some o =>
                  obtain ⟨u, hu, fu⟩ := st2.mem ha
                  rw [hz a o q] at hu
                  cases hu
                  cases fu
              have c3 := CKp.unlend c2 (Inv.canLend I1) ni
              have st3 := StRep.cf cf st2 hc.2
              exact kq v ι2 _ (k1.trans (c3.kp st3 fun a ha => zr1.st.mem ha)) (XRep.of p (Rep.cf cf _ rp hc.1)) (zr1.call c3 st3)
          · cases e1
      · cases e1
end
end DE
set_option Elab.async false
set_option linter.all false
set_option maxRecDepth 100000
set_option maxHeartbeats 4000000
namespace DE
open PySem PySem.Spec PyProof.Rows L2
section
variable {P : Program} {w : World} {K : PySem.W.Frag} {mg : Str → Option Value} {base : Heap} {A : Around} {outer : List Env} {H H' : Hp} {h h' : Heap} {s s' : Shared} {b : Addr} {cs : List (Addr × Obj)} {Q Q' : VK} {u : Value}
theorem HOk.unlend2 (x : HOk P w H h) (l : AreLent H cs) : HOk P w (unlendH cs H) h := fun a o e => by
  cases q : cs.lookup a with
  | some ob => rw [unlendH_in q] at e; cases e
  | none =>
    rw [unlendH_out q] at e
    refine objOk_conv (fun b v nf e => ?_) (x a o e)
    rw [unlendH_out (l.ne e fun o => nf o _)]; exact e
theorem Env0.unlend (x : Env0 P w K mg base A outer s H) (l : AreLent H cs) : Env0 P w K mg base A outer s (unlendH cs H) where
  frames := x.frames
  mod := x.mod
  bs b o e := ⟨(x.bs b o e).1, l.un (x.bs b o e).2⟩
  bsz := x.bsz
  funs := x.funs
  frf b hb := l.un (x.frf b hb)
  hok := HOk.unlend2 x.hok l
  bare := x.bare
end
section
variable {W : Wd} {ι : List Addr} {H : Hp} {cs : List (Addr × Obj)}
/-- data without lent closures, the cells taken back -/
theorem AreLent.cf (l : AreLent H cs) (ac : AreCells cs) : Cf H (unlendH cs H) := cf_unlend2 (H0 := H) l ac
end
end DE
set_option Elab.async false
set_option linter.all false
set_option maxRecDepth 100000
set_option maxHeartbeats 4000000
namespace DE
open PySem PySem.Spec PyProof.Rows L2 NdefX
open LamX (CodeO)
end DE
set_option Elab.async false
set_option linter.all false
set_option maxRecDepth 100000
set_option maxHeartbeats 4000000
namespace DE
open PySem PySem.Spec PyProof.Rows L2 NdefX
end DE
set_option Elab.async false
set_option linter.all false
set_option maxRecDepth 100000
set_option maxHeartbeats 4000000
namespace DE
open PySem PySem.Spec PyProof.Rows L2 NdefX
open LamX (CodeO)
/-- its names: the parameter, then the captured ones, then its locals; cells among them -/
structure NScopeC (N : List Str) (x : Str) (fr : List Str) (sc : Scope) : Prop where
  kind : sc.kind = .function
  co : sc.isCoroutine = false
  gen : sc.isGenerator = false
  nd : N.Nodup
  pre : N.take (1 + fr.length) = x :: fr
  par : sc.names.lookup x = some .local ∨ sc.names.lookup x = some .cell
  free : ∀ y ∈ sc.names, y.2 = .free → y.1 ∈ fr
  frk : ∀ x ∈ fr, sc.names.lookup x = some .free
  nofc : ∀ y ∈ fr, (y, NameKind.cell) ∉ sc.names
end DE
set_option Elab.async false
set_option linter.all false
set_option maxRecDepth 100000
set_option maxHeartbeats 4000000
namespace DE
open PySem PySem.Spec PyProof.Rows L2 NdefX
open LamX (CodeO)
end DE
set_option Elab.async false
set_option linter.all false
set_option maxRecDepth 100000
set_option maxHeartbeats 4000000
namespace DE
open PySem PySem.Spec PyProof.Rows L2
abbrev CgT := Nat → Option (Nat × (List D → Fn))
def clcGo (cg : CgT) (as : EvA) (k : Nat) (caps : List D) (z : Z) : Option (D × Z) := (cg k).bind fun ng => (as z).bind fun y => (lendAll y.2 y.1).bind fun ds => if ds.length = ng.1 then (ng.2 caps ds y.2.2).map fun r => (r.1, (y.2.1, r.2)) else none
def semClc (cg : CgT) : List Ev → Ev
  | [] => fun _ => none
  | f :: as => fun z => (f z).bind fun x => match x.1 with
    | .clc k _ caps => clcGo cg (as.foldr fCons fNil) k caps x.2
    | _ => none
end DE
set_option Elab.async false
set_option linter.all false
set_option maxRecDepth 100000
set_option maxHeartbeats 4000000
namespace DE
open PySem PySem.Spec PyProof.Rows L2
/-- which closures may be lent: the kind, its captured names, their slots -/
abbrev CT3 := List (Nat × List Str × List Nat)
def ctF (t : CT3) (k : Nat) : Option (List Nat) := (t.find? fun p => p.1 == k).map (·.2.2)
def capsB (N : List Str) (sc : Scope) : List Str → List Nat → Bool
  | [], [] => true
  | y :: ys, i :: r => decide (N[i]? = some y) && ((match sc.names.lookup y with
    | some .cell => true
    | some .free => true
    | _ => false) && capsB N sc ys r)
  | _, _ => false
theorem capsB_ok {N : List Str} {sc : Scope} {X : Cx} (hN : X.N = N) (hsc : X.env.scope = sc) : ∀ {ys : List Str} {r : List Nat}, capsB N sc ys r = true → CapsAt X ys r
  | [], [], _ => .nil
  | [], _ :: _, h => by cases h
  | _ :: _, [], h => by cases h
  | y :: ys, i :: r, h => by
    unfold capsB at h
    simp only [Bool.and_eq_true, decide_eq_true_eq] at h
    obtain ⟨h1, h2, h3⟩ := h
    refine .cons ⟨by rw [hN]; exact h1, ?_, ?_⟩ (capsB_ok hN hsc h3)
    · unfold Vis
      rw [hsc]
      split at h2
      · rename_i q; exact .inr (.inl q)
      · rename_i q; exact .inr (.inr q)
      · cases h2
    · show X.env.scope.names.lookup y ≠ some .local
      rw [hsc]
      split at h2
      · rename_i q; rw [q]; simp
      · rename_i q; rw [q]; simp
      · cases h2
theorem ctOk_by {W : Wd} {N : List Str} {sc : Scope} {X : Cx} {t : CT3} (hN : X.N = N) (hsc : X.env.scope = sc) (h : (t.all fun p => capsB N sc p.2.1 p.2.2) = true) (hf : ∀ p ∈ t, ∀ q, W.ck.f p.1 q = true → q.fr = p.2.1) : CtOk W X (ctF t) := fun k q r hq e => by
  unfold ctF at e
  cases ef : t.find? fun p => p.1 == k with
  | none => rw [ef] at e; cases e
  | some p =>
    rw [ef] at e
    cases e
    have hm := List.mem_of_find?_eq_some ef
    have hk : p.1 = k := by simpa using List.find?_some ef
    subst hk
    rw [hf p hm q hq]
    exact capsB_ok hN hsc (List.all_eq_true.mp h p hm)
/-- f(..), closures of this frame among the arguments -/
def XE.callL (t : CT3) (cl : List (Str × Addr)) (x : Str) (n : Nat) (g : Fn) (es : Es) : XE where
  sh := fun N sc e => match e with
    | .Call (.Name y _) (v :: vs) [] _ => decide (y = x) && (glb sc y && (nodbg y && ((v :: vs).all notStar && (chkEs N sc es (v :: vs) && t.all fun p => capsB N sc p.2.1 p.2.2))))
    | _ => false
  sem := xPure (fCallL (ctF t) cl n g (evEs es))
  need := fun G lv => G.cl.l = some cl ∧ CalN G lv x n g ∧ (∀ p ∈ t, ∀ q, G.W.ck.f p.1 q = true → q.fr = p.2.1) ∧ needEs G lv es
  ok := fun {G lv} nd N sc X fx e h B wx tk => by
    obtain ⟨n1, ⟨k, hk, cal⟩, n3, n4⟩ := nd
    split at h
    case h_2 => cases h
    rename_i y p v vs pos
    simp only [Bool.and_eq_true, decide_eq_true_eq] at h
    obtain ⟨rfl, h1, h2, h3, h4, h5⟩ := h
    obtain ⟨c1, c2⟩ := fx.cl cl n1
    have cal' : Cal X.nox.prog X.nox.w X.nox.K X.nox.mg X.nox.base G.W k y n g := by rw [fx.pr, fx.hw, fx.k, fx.mg, fx.bs]; exact cal
    have hg : Gl X.nox y := show X.nox.env.scope.names.lookup _ = _ by rw [fx.sc]; exact glb_ok h1
    rw [List.all_cons, Bool.and_eq_true] at h3
    have := pe_callL (X := X.nox) (B := B) (pos := pos) (p := p) cal' fx.room fx.gd hk c2 (ctOk_by fx.n fx.sc h5 n3) hg (sEs es h4 n4 fx B) (nodbg_ok h2).1 (star_ok h3.1) (any_ok h3.2)
    rw [c1] at this
    exact pe_xpure (PE.nox this)
end DE
set_option Elab.async false
set_option linter.all false
set_option maxRecDepth 100000
set_option maxHeartbeats 4000000
namespace DE
open PySem PySem.Spec PyProof.Rows L2 LamX NdefX
def semNdef (i k : Nat) (cl : List (Str × Addr)) : List Ev → EvS := fun _ z => some (.nx, (z.1.set i (some (.imm (.clo k cl))), z.2))
end DE
set_option Elab.async false
set_option linter.all false
set_option maxRecDepth 100000
set_option maxHeartbeats 4000000
namespace DE
open PySem PySem.Spec L2
section
variable {X : Cx} {W : Wd} {B : Bs} {tg : Expr}
/-- as tlc_of (DE6), what is walked kept by the state as a whole -/
theorem tlcZ_of {ti : TI} {ι : List Addr} {its : List D} {z1 : Z} {y : List D × Z} {ct : CT} {t : EvT} {f : Ev} {vs : List Nat} (hK : X.K = W.K) (hct : ∀ i ∈ ct.slots, i ∈ vs) (σ : L2.St) (H : Hp) (Q : VK)
    (h1 : ∀ R : It → Hp → Prop, (∀ J G ι1 H1, Kp ι H ι1 H1 → ZR W B ι1 H1 σ z1 → Wlk W ι1 H1 J its G → G H1 → (∀ ι2 H2 σ2 z2, Kp ι1 H1 ι2 H2 → ZR W B ι2 H2 σ2 z2 → G H2) → R J H1) → ti σ H R)
    (ec : compL ct t f vs its (wipeR z1.1 vs, z1.2) [] = some y)
    (k : ∀ p xs ι' H', Kp ι H ι' H' → ZR W B ι' H' σ (backR z1.1 y.2.1 vs, y.2.2) → RepL W ι' H' y.1 xs → y.1.length ≤ sizeLine → H p = none → H' p = some (.lst xs) → Fr B ι' σ (backR z1.1 y.2.1 vs, y.2.2) p → Q (.ref p) H') : tLc ti (ctg X.K ct) (ttvX W t) (tevX W f) vs σ H Q := by
  refine h1 _ fun J G ι1 H1 k1 zr1 wl g1 gk D hD => ?_
  have zw1 : ZR W B ι1 H1 (wipe σ vs) (wipeR z1.1 vs, z1.2) := zr1.wiped rfl rfl
  have frD : B.fr D := (Fr.of zr1 hD).b
  refine ⟨fun i m H2 => m = its.length - i ∧ i ≤ its.length ∧ ∃ ι2 z2 acc accV, Kp ι1 H1 ι2 H2 ∧ ZR W B ι2 H2 (wipe σ vs) z2 ∧ Fr B ι2 (wipe σ vs) z2 D ∧ H2 D = some (.lst accV) ∧ RepL W ι2 H2 acc accV ∧ acc.length ≤ sizeLine ∧ compL ct t f vs (its.drop i) z2 acc = some y,
    ⟨its.length, by simp, Nat.zero_le _, ι1, _, [], [], Kp.alloc hD, zw1.alloc hD, ⟨frD, (Fr.of zr1 hD).i, (Fr.of zw1 hD).o⟩, upd_same, .nil, Nat.zero_le _, by simpa using ec⟩, ?_⟩
  rintro i m H2 ⟨rfl, hile, ι2, z2, acc, accV, k2, zr2, fr2, hD2, rl2, al2, e2⟩
  have g2 := gk ι2 H2 _ _ k2 zr2
  by_cases hlt : i < its.length
  · have hd : its.drop i = its[i] :: its.drop (i + 1) := List.drop_eq_getElem_cons hlt
    rw [hd] at e2
    unfold compL at e2
    cases eg : ctD ct its[i] z2 with
    | none => rw [eg] at e2; cases e2
    | some z3 =>
      rw [eg, Option.bind_some] at e2
      cases et : t z3 with
      | none => rw [et] at e2; cases e2
      | some xt =>
        rw [et, Option.bind_some] at e2
        obtain ⟨bt, z4⟩ := xt
        refine .inr ⟨wl.goes i H2 hlt g2, fun H5 => ∃ ι5 z5 acc5 accV5, Kp ι1 H1 ι5 H5 ∧ ZR W B ι5 H5 (wipe σ vs) z5 ∧ Fr B ι5 (wipe σ vs) z5 D ∧ H5 D = some (.lst accV5) ∧ RepL W ι5 H5 acc5 accV5 ∧ acc5.length ≤ sizeLine ∧ compL ct t f vs (its.drop (i + 1)) z5 acc5 = some y, ?_, ?_⟩
        · rintro H5 ⟨ι5, z5, acc5, accV5, h5⟩
          exact ⟨its.length - (i + 1), by omega, rfl, hlt, ι5, z5, acc5, accV5, h5⟩
        · intro x H3 hy
          obtain ⟨sm, yl⟩ := wl.yields i H2 x H3 hlt g2 hy
          obtain ⟨pl, rp⟩ := yl its[i] ι2 (List.getElem?_eq_getElem hlt) k2
          have zr3 : ZR W ⟨B.ι, B.H, upd B.P D (.lst accV)⟩ ι2 H3 (wipe σ vs) z2 := (zr2.guard fr2 hD2).same sm
          have k3 : Kp ι1 H1 ι2 H3 := k2.trans (Kp.same sm)
          refine ctg_run hK zr3 pl rp eg hct fun σ2 hw hl2 zr4 => ⟨by rw [hw, wipe_wipe], ⟨⟨B.ι, B.H, upd B.P D (.lst accV)⟩, ι2, z3, bt, z4, zr4, et, fun ι5 H5 k5 zr5 => ?_⟩⟩
          have hl3 : σ2.length = σ.length := by rw [hl2, wipe_length]
          have hw3 : wipe σ2 vs = wipe σ vs := by rw [hw, wipe_wipe]
          cases bt with
          | false =>
            dsimp only
            rw [if_neg Bool.false_ne_true]
            obtain ⟨zu, fu, hu⟩ := ZR.unguard frD zr5
            have zw := zu.wiped hw3 hl3
            refine ⟨ι5, _, acc, accV, k3.trans k5, zw, ⟨frD, fu.i, fun j dv hj ho hs => ?_⟩, hu, rl2.kp ((Kp.same sm).trans k5), al2, e2⟩
            obtain ⟨g, n⟩ := wipeR_get hj
            refine fu.o j dv g ho ?_
            rw [wipe_get, if_neg n] at hs
            have : (wipe σ2 vs)[j]? = (wipe σ vs)[j]? := by rw [hw3]
            rw [wipe_get, wipe_get, if_neg n, if_neg n] at this
            rw [this]; exact hs
          | true =>
            dsimp only
            rw [if_pos rfl]
            simp only [if_true] at e2
            cases ef : f z4 with
            | none => rw [ef] at e2; cases e2
            | some yf =>
              rw [ef, Option.bind_some] at e2
              split at e2
              · rename_i hcond
                rw [Bool.and_eq_true] at hcond
                have hlen : acc.length < 16777216 := by
                  have := Nat.le_of_ble_eq_true hcond.2
                  omega
                refine ⟨⟨B.ι, B.H, upd B.P D (.lst accV)⟩, ι5, z4, yf.1, yf.2, zr5, ef, fun vy ι6 H6 k6 r6 zr6 => ?_⟩
                obtain ⟨zu, fu, hu⟩ := ZR.unguard frD zr6
                have rl6 : RepL W ι6 H6 acc accV := rl2.kp (((Kp.same sm).trans k5).trans k6)
                have k7 : Kp ι6 H6 ι6 (upd H6 D (.lst (accV ++ [vy]))) := Kp.at_ hu rfl (fun _ _ _ q => by cases q)
                have zw := (zu.at_fr fu (nte_lst hu) k7).wiped hw3 hl3
                refine ⟨accV, hu, by rw [← rl6.length, sizeLine_eq]; exact hlen, ι6, _, acc ++ [yf.1], accV ++ [vy], ((k3.trans k5).trans k6).trans k7, zw, ⟨frD, fu.i, fun j dv hj ho hs => ?_⟩, upd_same, (rl6.append (.cons hcond.1 (r6.rep hcond.1) .nil)).kp k7, by rw [List.length_append, sizeLine_eq]; simp; omega, e2⟩
                obtain ⟨g, n⟩ := wipeR_get hj
                refine fu.o j dv g ho ?_
                rw [wipe_get, if_neg n] at hs
                have : (wipe σ2 vs)[j]? = (wipe σ vs)[j]? := by rw [hw3]
                rw [wipe_get, wipe_get, if_neg n, if_neg n] at this
                rw [this]; exact hs
              · cases e2
  · have e : i = its.length := by omega
    subst e
    rw [List.drop_length] at e2
    cases e2
    refine .inl ⟨wl.stops H2 g2, ?_⟩
    have zb := zr1.back k2 zr2
    refine k D accV ι2 H2 (k1.trans k2) zb rl2 al2 (k1.th D hD) hD2 ⟨frD, fr2.i, fun j dv hj ho hs => ?_⟩
    rcases backR_get hj with ⟨n, g⟩ | ⟨_, d, rfl, _⟩
    · exact fr2.o j dv g ho (by rw [wipe_get, if_neg n]; exact hs)
    · cases ho
theorem wlk_own {ι : List Addr} {H0 : Hp} {K : PySem.W.Frag} {a : Addr} {ds : List D} {xs : List V} (r : RepL W ι H0 ds xs) : Wlk W ι H0 (Itl K a) ds (fun H => H a = some (.lst xs)) where
  goes := fun i H hi g => by
    rw [r.length] at hi
    exact ⟨xs, xs[i], .inl (.inl g), by simp [hi]⟩
  stops := fun H g => ⟨xs, .inl (.inl g), by rw [r.length]; exact Nat.le_refl _⟩
  yields := fun i H x H' hi g y => by
    obtain ⟨rfl, y⟩ := y
    refine ⟨fun _ _ h => h, fun d ι1 hd k => ?_⟩
    obtain ⟨v, hv, rv, pv⟩ := (r.kp k).get hd
    have := y xs (.inl (.inl g))
    rw [hv] at this; cases this
    exact ⟨pv, rv⟩
theorem ZR.forget1 {ι : List Addr} {H : Hp} {σ : L2.St} {z : Z} (zr : ZR W B ι H σ z) (i : Nat) : ZR W B ι H σ (z.1.set i none, z.2) := by
  have key : ∀ {j : Nat} {dv : DV}, (z.1.set i none)[j]? = some (some dv) → z.1[j]? = some (some dv) := fun {j dv} h => by
    by_cases hj : j = i
    · subst hj
      by_cases hl : j < z.1.length
      · rw [List.getElem?_set_self hl] at h; cases h
      · rw [List.getElem?_eq_none (by simp; omega)] at h; cases h
    · rw [List.getElem?_set_ne (Ne.symm hj)] at h; exact h
  exact ⟨zr.st, zr.pre, zr.new, zr.keep, zr.newP, zr.keepP, by simp [zr.len], fun j dv h => zr.slot j dv (key h), fun i j dv dv' a h1 o1 h2 o2 s1 s2 => zr.dis i j dv dv' a (key h1) o1 (key h2) o2 s1 s2⟩
/-- [f for ct in x if t], x the slot i -/
def fCompO (i : Nat) (ct : CT) (t : EvT) (f : Ev) (vs : List Nat) : EvA := fun z => match z.1[i]? with
  | some (some (.own ds)) => (compL ct t f vs ds (wipeR (z.1.set i none) vs, z.2) []).map fun y => (y.1, ((backR (z.1.set i none) y.2.1 vs).set i (some (.own ds)), y.2.2))
  | _ => none
theorem set_same {α : Type} {l : List α} {i : Nat} {a : α} (h : l[i]? = some a) : l.set i a = l := by
  apply List.ext_getElem?
  intro j
  by_cases hj : j = i
  · subst hj
    rw [List.getElem?_set_self (List.getElem?_eq_some_iff.mp h).1, h]
  · rw [List.getElem?_set_ne (Ne.symm hj)]
theorem pe_compO {elt : Expr} {ifs : List Expr} {scope : Scope} {own : List (Str × Nat)} {i : Nat} {x : Str} {ct : CT} {t : EvT} {f : Ev} {pos p : Pos} (hK : X.K = W.K) (hc : X.calm = true) (hN : X.N.Nodup) (hi : X.N[i]? = some x) (hv : Vis X.env.scope x) (hd : (x == ("__debug__" : Str)) = false) (hcd : (x == ("__classdict__" : Str)) = false) (ok : BlkOk X.N X.env.scope scope own)
    (hg : ∀ (s : Shared) (H : Hp) (C : Addr) (cl : List (Str × Addr)) (fp : List Addr), PG (X.blk s H scope (compEnvC scope cl C X.env) fp) tg (ctg X.K ct)) (hct : ∀ i ∈ ct.slots, i ∈ own.map (·.2))
    (ht : ∀ (s : Shared) (H : Hp) (C : Addr) (cl : List (Str × Addr)) (fp : List Addr) (B : Bs), PTs (X.blk s H scope (compEnvC scope cl C X.env) fp) ifs (ttv W B t))
    (he : ∀ (s : Shared) (H : Hp) (C : Addr) (cl : List (Str × Addr)) (fp : List Addr) (B : Bs), PE (X.blk s H scope (compEnvC scope cl C X.env) fp) elt (tev W B f)) (hs : ∀ u, foldedSetIterable (.Name x p) X.env u = pure u) :
    PE X (.ListComp elt [⟨tg, .Name x p, ifs, 0⟩] scope pos) (tfr W B (fCompO i ct t f (own.map (·.2)))) := by
  refine pe_mono (pe_lc hc hN (pi_list (pe_var hi hv hd hcd)) ok hg (fun s H C cl fp => pts_anyB (ht s H C cl fp)) (fun s H C cl fp => pe_anyB (he s H C cl fp)) hs) fun σ H Q q => ?_
  obtain ⟨ι, z, rs, z', zr, e1, k⟩ := q
  unfold fCompO at e1
  split at e1
  case h_2 => cases e1
  rename_i ds hz
  cases ec : compL ct t f (own.map (·.2)) ds (wipeR (z.1.set i none) (own.map (·.2)), z.2) [] with
  | none => rw [ec] at e1; cases e1
  | some y =>
    rw [ec] at e1
    cases e1
    obtain ⟨v, hσ, hr⟩ := zr.slot i _ hz
    obtain ⟨l, a, xs, rfl, ha, hfr, hni, rl⟩ := id hr
    have zf := zr.forget1 i
    have fr : Fr B ι σ (z.1.set i none, z.2) a := ⟨hfr, hni, fun j dv hj ho hs => by
      have hji : j ≠ i := fun e => by
        subst e
        have hl : j < z.1.length := (List.getElem?_eq_some_iff.mp hz).1
        rw [List.getElem?_set_self hl] at hj; cases hj
      rw [List.getElem?_set_ne (Ne.symm hji)] at hj
      exact hji (zr.dis j i dv _ a hj ho hz rfl hs hσ)⟩
    have zg := zf.guard fr ha
    refine tlcZ_of (B := ⟨B.ι, B.H, upd B.P a (.lst xs)⟩) (ι := ι) (its := ds) (z1 := (z.1.set i none, z.2)) hK hct σ H Q (fun R hR => ⟨.ref a, hσ, a, rfl, ⟨xs, .inl (.inl ha)⟩, hR _ (fun H => H a = some (.lst xs)) ι H .refl zg (wlk_own rl) ha fun ι2 H2 σ2 z2 k2 zr2 => (zr2.keepP a _ upd_same).eq rfl⟩) ec fun D xs' ι' H' k1 zr1 r1 l1 hD hD' frD => ?_
    obtain ⟨zu, fu, hu⟩ := ZR.unguard hfr zr1
    have zs := zu.setOwn (i := i) (dv := .own ds) fu rfl ⟨l, a, xs, rfl, hu, hfr, fu.i, rl.kp k1⟩
    rw [set_same hσ] at zs
    have hne : D ≠ a := fun e => by rw [e] at hD; rw [hD] at ha; cases ha
    refine k D xs' ι' H' k1 zs r1 l1 hD hD' ⟨⟨frD.b.1, ?_⟩, frD.i, fun j dv hj ho hs => ?_⟩
    · have : upd B.P a (.lst xs) D = none := frD.b.2
      rw [upd_ne hne] at this
      exact this
    · by_cases hji : j = i
      · subst hji
        rw [hσ] at hs
        cases hs
        exact hne rfl
      · rw [List.getElem?_set_ne (Ne.symm hji)] at hj
        exact frD.o j dv hj ho hs
end
/-- .. as a tree: the new list is kept -/
def XE.compO (i : Nat) (ct : CT) (t : Oe) (el : E) (own : List (Str × Nat)) : XE where
  sh := fun N sc e => match e with
    | .ListComp elt [⟨tg, .Name x p, ifs, 0⟩] scope _ => decide (N[i]? = some x) && (vis sc x && (nodbg x && (blkC N sc scope own && (chkCT N (relS scope sc) scope ct tg && (ct.slots.all (fun i => (own.map (·.2)).contains i) && (chkT N (relS scope sc) t ifs && chkE N (relS scope sc) el elt))))))
    | _ => false
  sem := xPure (fLst (fCompO i ct (evOT t) (evE el) (own.map (·.2))))
  need := fun G lv => needO G.blk lv t ∧ needE G.blk lv el
  ok := fun {G lv} nd N sc X fx e h B wx tk => by
    split at h
    case h_2 => cases h
    rename_i elt tg x p ifs scope pos
    simp only [Bool.and_eq_true, decide_eq_true_eq] at h
    obtain ⟨h1, h2, h3, h4, h5, h6, h7, h8⟩ := h
    have bo : BlkOk X.nox.N X.nox.env.scope scope own := by rw [fx.n, fx.sc]; exact blkOk_by h4
    refine pe_xpure (PE.nox (pe_frzD (pe_compO (X := X.nox) fx.k fx.calm (by rw [fx.n]; exact fx.nd) (by rw [fx.n]; exact h1) (by rw [fx.sc]; exact vis_ok h2) (nodbg_ok h3).1 (nodbg_ok h3).2 bo (fun s H C cl fp => ?_) (fun i hi => ?_) (fun s H C cl fp B => ?_) (fun s H C cl fp B => ?_) (fold_ok rfl))))
    · have f2 := Fits.blk (scope := scope) fx s H C cl fp
      exact ct_ok f2.calm f2.n f2.nd f2.sc (fun x q => q) h5
    · rw [List.all_eq_true] at h6
      simpa using h6 i hi
    · exact sOT t h7 nd.1 (Fits.blk (scope := scope) fx s H C cl fp) B
    · exact sE el h8 nd.2 (Fits.blk (scope := scope) fx s H C cl fp) B
end DE
set_option Elab.async false
set_option linter.all false
set_option maxRecDepth 100000
set_option maxHeartbeats 4000000
namespace DE
open PySem PySem.Spec PyProof.Rows L2
end DE
set_option Elab.async false
set_option linter.all false
set_option maxRecDepth 100000
set_option maxHeartbeats 4000000
namespace DE
open PySem PySem.Spec PyProof.Rows L2 LamX
mutual
theorem pyD_rd0 {W : Wd} {ι : List Addr} {H : Hp} {X : Cx} : ∀ (d : D) {v : V} {p : PyData}, pyD d = some p → Rep W ι H d v → ∀ (h : Heap) (u : Value), HOk X.prog X.w H h → RelV v u → Reads h u p []
  | .int i, v, p, e, r => by
    unfold pyD at e
    unfold Rep at r
    cases e
    subst r
    intro h u _ ru
    obtain ⟨t, rfl⟩ := ru
    exact .int i t
  | .str s, v, p, e, r => by
    unfold pyD at e
    unfold Rep at r
    cases e
    obtain ⟨rfl, _⟩ := r
    intro h u _ ru
    obtain ⟨t, rfl⟩ := ru
    exact .str _ t
  | .tup ds, v, p, e, r => by
    unfold pyD at e
    unfold Rep at r
    obtain ⟨_, a, xs, rfl, ha, rl⟩ := r
    cases e1 : pyL ds with
    | none => rw [e1] at e; cases e
    | some ps =>
      rw [e1] at e
      cases e
      intro h u hk ru
      obtain rfl : u = Value.ref a := ru
      obtain ⟨_, its, rv, o, ho, hc, n, hd⟩ := (show ObjOk X.prog X.w H h a (.tup xs) from hk a _ ha)
      have ra := pyL_rd0 (X := X) ds e1 rl h its hk rv
      exact .tuple ho hc hd (by simpa using ra)
  | .non, _, _, e, _ => by unfold pyD at e; cases e
  | .bl _, _, _, e, _ => by unfold pyD at e; cases e
  | .lst _, _, _, e, _ => by unfold pyD at e; cases e
  | .ins _ _, _, _, e, _ => by unfold pyD at e; cases e
  | .han _, _, _, e, _ => by unfold pyD at e; cases e
  | .bor _, _, _, e, _ => by unfold pyD at e; cases e
  | .brw _, _, _, e, _ => by unfold pyD at e; cases e
  | .fn _, _, _, e, _ => by unfold pyD at e; cases e
  | .ftp _, _, _, e, _ => by unfold pyD at e; cases e
  | .itp _, _, _, e, _ => by unfold pyD at e; cases e
  | .dic _, _, _, e, _ => by unfold pyD at e; cases e
  | .exc _ _, _, _, e, _ => by unfold pyD at e; cases e
  | .clo _ _, _, _, e, _ => by unfold pyD at e; cases e
  | .clc _ _ _, _, _, e, _ => by unfold pyD at e; cases e
theorem pyL_rd0 {W : Wd} {ι : List Addr} {H : Hp} {X : Cx} : ∀ (ds : List D) {vs : List V} {ps : List PyData}, pyL ds = some ps → RepL W ι H ds vs → ∀ (h : Heap) (us : List Value), HOk X.prog X.w H h → Vals vs us → ReadsAll h us ps []
  | [], vs, ps, e, r => by
    unfold pyL at e
    cases e
    unfold RepL at r
    subst r
    intro h us _ ru
    cases ru
    exact .nil
  | d :: ds, vs, ps, e, r => by
    unfold pyL at e
    unfold RepL at r
    obtain ⟨v, w, rfl, _, r1, r2⟩ := r
    cases e1 : pyD d with
    | none => rw [e1] at e; cases e
    | some p =>
      rw [e1, Option.bind_some] at e
      cases e2 : pyL ds with
      | none => rw [e2] at e; cases e
      | some qs =>
        rw [e2] at e
        cases e
        intro h us hk ru
        cases ru with
        | cons h1 t => exact .cons (as := []) (bs := []) (pyD_rd0 (X := X) d e1 r1 h _ hk h1) (pyL_rd0 (X := X) ds e2 r2 h _ hk t)
end
end DE
set_option Elab.async false
set_option linter.all false
set_option maxRecDepth 100000
set_option maxHeartbeats 4000000
namespace PySem
namespace HandSPX
open Builtin Builtin.ObjectAttr
section
variable {prog : Program} {w : World} {A : Around} {E : Value → Shared → Prop} {R : Result → Shared → Prop} {h : Heap} {g : Array GenState} {d : Drawn} {t : Nat} {os : OsState}
variable {nm q : Str} {C N : Addr} {bs bm bmB : List Value} {hdct : Bool} {sn : List Str} {sub : List Value} {ab : Bool} {col : Option Bool} {dd : Option Addr} {k0 k1 k2 k3 k5 : Option Value} {B newId initId : String}
theorem new_ownK (F : ExcBaseFacts B newId initId bmB) (hT : ∀ X : String, bm.contains (.type X) = bmB.contains (.type X)) {rest : List Value} {kw : List (Str × Value)}
    (hC : h.get? C = some (excClassObj nm q C N bs bm hdct sn sub ab col dd k0 k1 k2 k3 k5 newId))
    (hq : R (.ok (.ret (.ref (h.objs.size + 1)))) ⟨(h.push { cls := .type "tuple", data := .seq rest.toArray }).push
      { cls := .ref C, data := .fields #[.ref h.objs.size, .none, .none, .none, .bool false, .none] }, g, d, t, os⟩) (hrest : rest.length ≤ sizeLine) :
    codeAny (model prog w) A (.builtin newId ⟨.ref C :: rest, kw⟩) R ⟨h, g, d, t, os⟩ := by
  have hends := F.ends
  have hcB : (Value.ref C :: bm).contains (.type B) = true := by rw [List.contains_cons, hT, F.hasB, Bool.or_true]
  have hcA : (Value.ref C :: bm).contains (.type "AttributeError") = false := by rw [List.contains_cons, hT, F.noAttr]; rfl
  have hcN : (Value.ref C :: bm).contains (.type "NameError") = false := by rw [List.contains_cons, hT, F.noName]; rfl
  refine codeAny_builtinAt F.entry ?_
  unfold Builtin.«BaseException.__new__»
  refine wpAt_bind ?_
  show wpAt _ _ _ (stack >>= _) _ _ _
  refine wpAt_bind (wpAt_stack fun p below => wpAt_of_wpAny ?_)
  wp_walk
  refine wpAt_of_wpAny ?_
  rw [F.owner]
  repeat (first | with_reducible refine wpAny_madeHere_exc F.canon hC ?_ | with_reducible refine wpAny_loadPart_at hC ?_ | (with_reducible refine wpAny_isSubtype_exc hC ?_; first | rw [hcB] | rw [hcA] | rw [hcN]) | wp_step)
  show R _ _
  rw [Heap.size_push]
  exact hq
theorem check_new_ownK (F : ExcBaseFacts B newId initId bmB) (hT : ∀ X : String, bm.contains (.type X) = bmB.contains (.type X)) {rest : List Value} {kw : List (Str × Value)} {Q : Unit → Shared → Prop}
    (hC : h.get? C = some (excClassObj nm q C N bs bm hdct sn sub ab col dd k0 k1 k2 k3 k5 newId)) (hq : Q () ⟨h, g, d, t, os⟩) : wpAny (model prog w) A (checkBuiltinCall newId ⟨.ref C :: rest, kw⟩) Q E ⟨h, g, d, t, os⟩ := by
  have hcont : (Value.ref C :: bm).contains (.type B) = true := by rw [List.contains_cons, hT, F.hasB, Bool.or_true]
  have hstar := F.noStar
  simp only [checkBuiltinCall, F.newKind, F.newSplit, F.newRow]
  repeat (first | refine wpAny_loadPart_at hC ?_ | (refine wpAny_isSubtype_exc hC ?_; rw [hcont]) | refine wpAny_staticBase_exc hC ?_ | refine wpAny_madeBy_exc hC ?_ | simp only [bne_self_eq_false, Bool.false_eq_true, if_false] | wp_step)
  exact hq
theorem type_call_ownK (F : ExcBaseFacts B newId initId bmB) (hT : ∀ X : String, bm.contains (.type X) = bmB.contains (.type X)) {rest : List Value} {kw : List (Str × Value)} {fI : Addr} {Q : Fin → Shared → Prop}
    (hC : h.get? C = some (excClassObj nm q C N bs bm hdct sn sub ab col dd k0 k1 k2 k3 k5 newId))
    (hi : W.Looks (model prog w) h (typeLookup (.ref C) "__init__") (some (.ref fI))) (hb : ∀ self, W.Looks (model prog w) h (bindSpecial (.ref fI) self) (.ref fI, [self])) (hrest : rest.length ≤ sizeLine)
    (hq : codeAny (model prog w) A (.call (.ref fI) ⟨.ref (h.objs.size + 1) :: rest, kw⟩)
      (fun r s' => match r with | .ok (.ret v) => v = .none ∧ Q (.done (.ret (.ref (h.objs.size + 1)))) s' | .ok _ => False | .error e => E e s')
      ⟨(h.push (W.kdv_tup rest)).push (excO C h.objs.size), g, d, t, os⟩) :
    wpAny (model prog w) A (Builtin.«type.__call__» ⟨.ref C :: rest, kw⟩) Q E ⟨h, g, d, t, os⟩ := by
  repeat (first | with_reducible refine wpAny_loadPart_at hC ?_ | with_reducible refine wpAny_madeBy_exc hC ?_ | wp_step)
  refine codeAny_call_builtin_code (Code.quiet_builtin _ F.quiet) (check_new_ownK F hT hC ?_)
  refine new_ownK F hT hC ?_ hrest
  show wpAny _ _ _ _ _ _
  have k : ∀ b o, h.get? b = some o → ((h.push (W.kdv_tup rest)).push (excO C h.objs.size)).get? b = some o := fun b o e => Heap.get?_push_of_some _ (Heap.get?_push_of_some _ e)
  have hC₁ := k _ _ hC
  have hget : ((h.push (W.kdv_tup rest)).push (excO C h.objs.size)).get? (h.objs.size + 1) = some (excO C h.objs.size) := by heap_get
  have hcC : (Value.ref C :: bm).contains (.ref C) = true := by simp
  have i1 := hi.keeps k
  have b1 := (hb (.ref (h.objs.size + 1))).keeps k
  unfold isInstance
  repeat (first | with_reducible refine wpAny_loadPart_at hget ?_ | (with_reducible refine wpAny_isSubtype_exc hC₁ ?_; rw [hcC]) | wp_step)
  show wpAny _ _ (typeLookup (.ref C) _) _ _ _
  refine i1.at ?_
  refine wpAny_holding (wpAny_bind (b1.at ?_))
  refine wpAny_bind (wpAny_call (codeAny_mono hq fun r s' z => ?_))
  rcases r with e | (v | _ | _ | _) <;> first | exact z | exact z.elim | skip
  obtain ⟨rfl, z⟩ := z
  first
    | exact wpAny_pure (wpAny_pure z)
    | (wp_walk; exact z)
theorem call_ownK (F : ExcBaseFacts B newId initId bmB) (hT : ∀ X : String, bm.contains (.type X) = bmB.contains (.type X)) {rest : List Value} {kw : List (Str × Value)} {fI : Addr}
    (hC : h.get? C = some (excClassObj nm q C N bs bm hdct sn sub ab col dd k0 k1 k2 k3 k5 newId))
    (hi : W.Looks (model prog w) h (typeLookup (.ref C) "__init__") (some (.ref fI))) (hb : ∀ self, W.Looks (model prog w) h (bindSpecial (.ref fI) self) (.ref fI, [self])) (hrest : rest.length ≤ sizeLine)
    (hq : codeAny (model prog w) (A.under (.builtin "type.__call__" ⟨.ref C :: rest, kw⟩)) (.call (.ref fI) ⟨.ref (h.objs.size + 1) :: rest, kw⟩) (W.InitBack (h.objs.size + 1) R)
      ⟨(h.push (W.kdv_tup rest)).push (excO C h.objs.size), g, d, t, os⟩) :
    codeAny (model prog w) A (.call (.ref C) ⟨rest, kw⟩) R ⟨h, g, d, t, os⟩ := by
  have f1 := tc_lookup
  have f2 := tc_bind (.ref C)
  have hTy : (⟨h, g, d, t, os⟩ : Shared).TypeIs (.ref C) "type" := ⟨_, hC, rfl⟩
  refine codeAny_of_tree ?_
  show wpAny _ _ (callAny (.ref C) _) _ _ _
  repeat (any_goals (first | assumption | with_reducible refine wpAny_loadPart_at hC ?_ | wp_step))
  refine ⟨rfl, ?_⟩
  refine codeAny_call_builtin_at (Code.quiet_builtin _ (by decide +kernel)) entry_typeCall (wpAny_check_type_call_sub hC (type_call_ownK F hT hC hi hb hrest ?_))
  refine codeAny_mono hq fun r s' z => ?_
  rcases r with e | (v | _ | _ | _) <;> exact z
end
end HandSPX
end PySem
namespace DE
open PySem PySem.Spec PyProof.Rows L2
section
open Builtin Builtin.ObjectAttr
variable {prog : Program} {w : World} {A : Around} {E : Value → Shared → Prop} {R : Result → Shared → Prop} {s : Shared} {K : PySem.W.Frag} {C : Addr}
/-- a further field of an exception that has its dict (the steps of HandS.ExcInit's osa_old, any base) -/
theorem xosa_old {name : Str} {v : Value} {x dx : Addr} {fv : Array Value} {m0 : Str → Option Value} {nl : List Str} (T : ExT K C) {hp : Heap} {g : Array GenState} {d : Drawn} {t : Nat} {os : OsState} {tk : Tok}
    (X : K.In hp) (hx : hp.get? x = some { cls := .ref C, dict := some dx, data := .fields fv }) (hns : hp.Ns1 dx m0) (hw : Within m0 nl) (hz : nl.length ≤ 1000) (ha : PySem.W.findIn K (.ref C) name = some none)
    (hq : ∀ h' tk', (∀ b o, b ≠ dx → hp.get? b = some o → h'.get? b = some o) → h'.Ns1 dx (fun y => if y = name then some v else m0 y) → R (.ok (.ret .none)) ⟨h', g, d, tk', os⟩) :
    codeAny (model prog w) A (.call (.builtin "object.__setattr__") ⟨[.ref x, .str name tk, v], []⟩) R ⟨hp, g, d, t, os⟩ := by
  obtain ⟨bmB, newId, nm, N, qn, bs, bm, sn, sub0, ab, col, dd, k0, k1, k2, k3, k5, B, ho, ht⟩ := T.obj
  have hcd : PySem.W.clsIn K C = some { name := nm, bases := bs, mro := .ref C :: bm, ns := N, qualname := qn, hasDict := true, slotNames := sn, subclasses := sub0, abstract := ab, collection := col, hasDel := false } := by unfold PySem.W.clsIn; rw [ho] <;> rfl
  obtain ⟨oD, esD, epD, hoD, hdD, _⟩ := hns.count hw
  have I : PySem.W.InstAt hp x { cls := .ref C, dict := some dx, data := .fields fv } C (some oD) := ⟨hx, rfl, rfl, hoD⟩
  have SF := PySem.F.store_object
  have hob : (Value.ref C :: bm).contains (.type "object") = true := by rw [List.contains_cons, PySem.W.excTail_contains "object" _ ht, B.ob, Bool.or_true]
  have sub : PySem.W.Looks (model prog w) hp (isInstance (.ref x) (.type "object")) true := I.type.andThen (PySem.W.looks_mroIn X (by unfold PySem.W.mroIn; rw [hcd, Option.bind_some]; rw [if_neg (by simp)]; exact congrArg some hob))
  refine codeAny_call_builtin SF.slot.plain SF.entry (@PySem.W.check_slot (model prog w) _ _ ⟨hp, g, d, t, os⟩ "object.__setattr__" "object" "__setattr__" (.ref x) [.str name tk, v] [] _ SF.kind SF.split sub (SF.args (.ref x) (.str name tk) v) ?_)
  have hmr : PySem.W.Looks (model prog w) hp (mroOf (.ref C)) (.ref C :: bm) := (PySem.W.looks_clsIn X hcd).andThen .now
  have L3 : PySem.W.Looks (model prog w) hp (storeTaker? none) none := .now
  have hcls := PySem.W.looks_clsIn (M := model prog w) X hcd
  rw [PySem.W.osa_eq, refuse_eq]
  refine wpAny_bind (wpAny_bind (I.type.at (wpAny_bind (hmr.at ?_))))
  rw [refuseLoop_ref, PySem.W.excTail_pass _ (B.pass _) _ ht]
  refine wpAny_pure (wpAny_bind (I.type.at (wpAny_bind ((PySem.W.looks_findIn X ha).at (wpAny_bind (L3.at ?_))))))
  show wpAny _ _ (storeInOwnDict (.ref x) (.ref C) (.str name tk) name v false) _ _ _
  unfold storeInOwnDict ownDictForStores
  repeat (first | with_reducible refine PySem.OEX.store_in_old hns hw hz ?_ | with_reducible refine wpAny_loadPart_at hx ?_ | with_reducible refine hcls.at ?_ | wp_step)
  intro h' tk' hn' hs
  exact hq h' tk' (fun b o hb ho => (hs.2 b hb).trans ho) hn'
end
/-- the arguments of C(v) or C(f=v) -/
def args1 (b : Bool) (f : Str) (v : Value) : List Value × List (Str × Value) := if b then ([], [(f, v)]) else ([v], [])
section
variable {prog : Program} {w : World} {A : Around} {E : Value → Shared → Prop} {R : Result → Shared → Prop} {s : Shared} {K : PySem.W.Frag} {C fI : Addr}
theorem x_init1K {f : Str} (b : Bool) (T : ExT K C) (F : Ini1 K fI f) (hf : f = "given" ∨ f = "index" ∨ f = "number") (noN : PySem.W.findIn K (.ref C) f = some none) {x t0 : Addr} {v : Value} (X : K.In s.heap) (hlim : s.heap.NoLimit) (hx : s.heap.get? x = some (xobj C t0)) (hroom : A.depth < recursionLimit)
    (hq : ∀ h' tk dx, IniEnd s.heap h' x C dx t0 [(f, v)] → R (.ok (.ret .none)) { s with heap := h', toks := tk }) :
    codeAny (model prog w) A (.call (.ref fI) ⟨.ref x :: (args1 b f v).1, (args1 b f v).2⟩) R s := by
  cases b with
  | false => exact x_init1 T F hf noN X hlim hx hroom hq
  | true =>
  obtain ⟨nm, qn, more, od, doc, pm, kV, an, cdv, ct, osl, p1, p2, q1, q2, q3, q4, ho, hcd⟩ := F.fn
  show codeAny (model prog w) A (.call (.ref fI) ⟨[.ref x], [(f, v)]⟩) R s
  rcases hf with rfl | rfl | rfl
  all_goals
    refine Att.call_fn (binds := [("self", .ref x), (_, v)]) X hlim ho hcd hroom (BindsTo.of_eq (by first | rfl | with_unfolding_all rfl)) (by first | rfl | decide | with_unfolding_all rfl) (fun s₁ IC => ?_) rfl rfl rfl
    obtain ⟨h₁, tk₁, rfl⟩ := IC.toInCall.same
    have k : ∀ b o, s.heap.get? b = some o → h₁.get? b = some o := IC.toInCall.keep
    have hn := IC.toInCall.ns
    have hxL : s.heap.objs.size ≠ x := Nat.ne_of_gt (Heap.lt_size hx)
    have X₁ : K.In h₁ := X.keeps k
    have hx₁ := k _ _ hx
    show wpAny _ _ (execs _ _) _ _ _
    refine wpAny_execs_cons (plainObj_wpAny_Assign_Attribute ?_)
    refine ldCX (v := v) hn (by first | rfl | with_unfolding_all rfl | kernel_rfl) (ldCX (v := .ref x) hn (by first | rfl | with_unfolding_all rfl | kernel_rfl) ?_)
    refine PySem.W.set_plain X₁ (ox := xobj C t0) (od := none) ⟨hx₁, rfl, rfl, trivial⟩ T.sa ?_
    refine xosa T X₁ hx₁ noN (fun h₃ tk₃ dx k₃ dn dne hx₃ hn₃ => ?_)
    show wpAny _ _ (execs _ _) _ _ _
    have z : s.heap.objs.size < h₁.objs.size := hn.lt
    refine wpAny_execs_nil (hq h₃ tk₃ dx ⟨fun b o hb e => k₃ b o hb (k b o e), hx₃, Nat.le_of_lt (Nat.lt_of_lt_of_le z dn), dne, ns1_ext hn₃ fun y => ?_⟩)
    rw [List.lookup_cons]
    split <;> rename_i q
    · subst q; simp
    · have : (y == _) = false := beq_eq_false_iff_ne.mpr q
      rw [this]; rfl
structure Ini2 (K : PySem.W.Frag) (g : Addr) : Prop where
  fn : ∃ (nm qn : Str) (more : _) (od : Option Addr) (doc pm kV : Value) (an : Option Addr) (cdv ct : Value) (osl : Array (Option Value)) (p1 p2 p3 q1 q2 q3 q4 q5 q6 q7 q8 : Pos),
    K.lookup g = some ⟨.type "function", od, .func (PySem.W.fnOf nm qn ⟨[], [⟨"self", none, p1⟩, ⟨"index", none, p2⟩, ⟨"told", none, p3⟩], none, [], [], none, []⟩ [.Assign [.Attribute (.Name "self" q1) "index" q2] (.Name "index" q3) q4, .Assign [.Attribute (.Name "self" q5) "told" q6] (.Name "told" q7) q8] ⟨.function, [("self", .local), ("index", .local), ("told", .local)], false, false, more⟩ .none kV doc pm an cdv ct), osl⟩ ∧ PySem.W.codeIn K cdv qn = true
theorem ini2_ok {K : PySem.W.Frag} {g : Addr} (h : ini2B K g = true) : Ini2 K g := by
  unfold ini2B at h
  split at h
  · rename_i od fd osl q
    obtain ⟨n1, n2, n3, n4, n5, n6, n7, n8, n9, n10, n11, n12, n13, n14, n15⟩ := fd
    simp only [posOk, Bool.and_eq_true, decide_eq_true_eq, List.isEmpty_iff] at h
    obtain ⟨⟨⟨h1, h2⟩, h3⟩, ⟨⟨⟨h4, h5⟩, h6⟩, h7⟩, h8⟩ := h
    subst h4 h5 h6 h7
    split at h1
    · rename_i a pa b pb c pc
      simp only [Bool.and_eq_true, decide_eq_true_eq] at h1
      obtain ⟨⟨rfl, rfl⟩, rfl⟩ := h1
      split at h2
      · rename_i s p1 v p2 u p3 p4 s2 p5 v2 p6 u2 p7 p8
        simp only [Bool.and_eq_true, decide_eq_true_eq] at h2
        obtain ⟨⟨⟨rfl, rfl⟩, rfl⟩, ⟨rfl, rfl⟩, rfl⟩ := h2
        rw [h3] at q
        exact ⟨_, _, _, _, _, _, _, _, _, _, _, _, _, _, _, _, _, _, _, _, _, _, q, h8⟩
      · cases h2
    · cases h1
  · cases h
def args2 (b : Bool) (u v : Value) : List Value × List (Str × Value) := if b then ([], [("told", v), ("index", u)]) else ([u, v], [])
theorem x_init2K (b : Bool) (T : ExT K C) (F : Ini2 K fI) (noN : PySem.W.findIn K (.ref C) "index" = some none) (noM : PySem.W.findIn K (.ref C) "told" = some none) {x t0 : Addr} {u v : Value} (hxK : K.lookup x = none) (X : K.In s.heap) (hlim : s.heap.NoLimit) (hx : s.heap.get? x = some (xobj C t0)) (hroom : A.depth < recursionLimit)
    (hq : ∀ h' tk dx, IniEnd s.heap h' x C dx t0 [("told", v), ("index", u)] → R (.ok (.ret .none)) { s with heap := h', toks := tk }) :
    codeAny (model prog w) A (.call (.ref fI) ⟨.ref x :: (args2 b u v).1, (args2 b u v).2⟩) R s := by
  obtain ⟨nm, qn, more, od, doc, pm, kV, an, cdv, ct, osl, p1, p2, p3, q1, q2, q3, q4, q5, q6, q7, q8, ho, hcd⟩ := F.fn
  cases b
  all_goals
    refine Att.call_fn (binds := [("self", .ref x), ("index", u), ("told", v)]) X hlim ho hcd hroom (BindsTo.of_eq (by first | rfl | with_unfolding_all rfl)) (by first | rfl | decide | with_unfolding_all rfl) (fun s₁ IC => ?_) rfl rfl rfl
    obtain ⟨h₁, tk₁, rfl⟩ := IC.toInCall.same
    have k : ∀ b o, s.heap.get? b = some o → h₁.get? b = some o := IC.toInCall.keep
    have hn := IC.toInCall.ns
    have hxL : s.heap.objs.size ≠ x := Nat.ne_of_gt (Heap.lt_size hx)
    have X₁ : K.In h₁ := X.keeps k
    have hx₁ := k _ _ hx
    show wpAny _ _ (execs _ _) _ _ _
    refine wpAny_execs_cons (plainObj_wpAny_Assign_Attribute ?_)
    refine ldCX (v := u) hn (by first | rfl | with_unfolding_all rfl | kernel_rfl) (ldCX (v := .ref x) hn (by first | rfl | with_unfolding_all rfl | kernel_rfl) ?_)
    refine PySem.W.set_plain X₁ (ox := xobj C t0) (od := none) ⟨hx₁, rfl, rfl, trivial⟩ T.sa ?_
    refine xosa T X₁ hx₁ noN (fun h₃ tk₃ dx k₃ dn dne hx₃ hn₃ => ?_)
    show wpAny _ _ (execs _ _) _ _ _
    have z : s.heap.objs.size < h₁.objs.size := hn.lt
    have hn2 := (show h₃.Ns s.heap.objs.size _ from let ⟨o, es, ep, ho', r⟩ := hn; ⟨o, es, ep, k₃ _ o hxL ho', r⟩)
    have X₃ : K.In h₃ := fun a o e => k₃ a o (fun q => by rw [q, hxK] at e; cases e) (X₁ a o e)
    have hw := Within.cons (m := fun _ => none) (ns := []) "index" u Within.nil
    obtain ⟨oD, esD, epD, hoD, hdD, _⟩ := hn₃.count hw
    refine wpAny_execs_cons (plainObj_wpAny_Assign_Attribute ?_)
    refine ldCX (v := v) hn2 (by first | rfl | with_unfolding_all rfl | kernel_rfl) (ldCX (v := .ref x) hn2 (by first | rfl | with_unfolding_all rfl | kernel_rfl) ?_)
    refine PySem.W.set_plain X₃ (ox := { cls := .ref C, dict := some dx, data := .fields #[.ref t0, .none, .none, .none, .bool false, .none] }) (od := some oD) ⟨hx₃, rfl, rfl, hoD⟩ T.sa ?_
    refine xosa_old T X₃ hx₃ hn₃ hw (by simp) noM (fun h₄ tk₄ k₄ hn₄ => ?_)
    show wpAny _ _ (execs _ _) _ _ _
    refine wpAny_execs_nil (hq h₄ tk₄ dx ⟨fun b o hb e => k₄ b o (fun q => absurd (Nat.lt_of_lt_of_le (Heap.lt_size (k b o e)) dn) (by rw [q]; exact Nat.lt_irrefl _)) (k₃ b o hb (k b o e)), k₄ _ _ dne.symm hx₃, Nat.le_of_lt (Nat.lt_of_lt_of_le z dn), dne, ns1_ext hn₄ fun y => ?_⟩)
    rw [List.lookup_cons]
    by_cases q : y = ("told" : Str)
    · subst q; simp
    · have q' : (y == ("told" : Str)) = false := beq_eq_false_iff_ne.mpr q
      rw [if_neg q, q', List.lookup_cons]
      by_cases q2 : y = ("index" : Str)
      · subst q2; simp
      · have q2' : (y == ("index" : Str)) = false := beq_eq_false_iff_ne.mpr q2
        rw [if_neg q2, q2']; rfl
end
end DE
set_option Elab.async false
set_option linter.all false
set_option maxRecDepth 100000
set_option maxHeartbeats 4000000
namespace DE
open PySem PySem.Spec PyProof.Rows L2
section
variable {prog : Program} {w : World} {A : Around} {E : Value → Shared → Prop} {R : Result → Shared → Prop} {s : Shared} {K : PySem.W.Frag} {C fI : Addr}
/-- C(us, kw), by what C's __init__ does -/
theorem x_madeK (T : ExT K C) (iC : PySem.W.findIn K (.ref C) "__init__" = some (some (.ref fI))) (tC : PySem.W.typeIn K (.ref fI) = some (.type "function")) {us : List Value} {kw : List (Str × Value)} {fs : List (Str × Value)} (hl : us.length ≤ 10) (X : K.In s.heap) (hlim : s.heap.NoLimit) (hroom : A.depth + 1 < recursionLimit)
    (ini : ∀ (A' : Around) (s' : Shared) (R' : Result → Shared → Prop) (x t0 : Addr), K.In s'.heap → K.lookup x = none → s'.heap.NoLimit → s'.heap.get? x = some (xobj C t0) → A'.depth < recursionLimit → (∀ h' tk dx, IniEnd s'.heap h' x C dx t0 fs → R' (.ok (.ret .none)) { s' with heap := h', toks := tk }) → codeAny (model prog w) A' (.call (.ref fI) ⟨.ref x :: us, kw⟩) R' s')
    (hq : ∀ h' tk e d, XMade s.heap h' e C d fs → R (.ok (.ret (.ref e))) { s with heap := h', toks := tk }) :
    codeAny (model prog w) A (.call (.ref C) ⟨us, kw⟩) R s := by
  obtain ⟨bmB, newId, nm, N, qn, bs, bm, sn, sub0, ab, col, dd, k0, k1, k2, k3, k5, B, ho, ht⟩ := T.obj
  obtain ⟨B0, initId, FB⟩ := B.ex
  obtain ⟨hp, g, dr, tk, os⟩ := s
  have k : ∀ b o, hp.get? b = some o → ((hp.push (PySem.W.kdv_tup us)).push (PySem.HandSPX.excO C hp.objs.size)).get? b = some o := fun b o e => Heap.get?_push_of_some _ (Heap.get?_push_of_some _ e)
  have hget : ((hp.push (PySem.W.kdv_tup us)).push (PySem.HandSPX.excO C hp.objs.size)).get? (hp.objs.size + 1) = some (PySem.HandSPX.excO C hp.objs.size) := by heap_get
  have hnK : K.lookup (hp.objs.size + 1) = none := by
    cases q : K.lookup (hp.objs.size + 1) with
    | none => rfl
    | some o => exact absurd (Heap.lt_size (X _ _ q)) (by simp)
  refine PySem.HandSPX.call_ownK FB (fun Y => PySem.W.excTail_contains Y bm ht) (X _ _ ho) (PySem.W.looks_findIn X iC) (fun self => PySem.W.bind_fn X self tC) (by rw [sizeLine_eq]; omega) ?_
  refine ini _ ⟨(hp.push (PySem.W.kdv_tup us)).push (PySem.HandSPX.excO C hp.objs.size), g, dr, tk, os⟩ _ (hp.objs.size + 1) hp.objs.size (X.keeps k) hnK (hlim.keeps k) hget ?_ fun h' tk' dx ⟨k', hx, dn, dne, hns⟩ => ?_
  · show A.depth + 1 < recursionLimit
    exact hroom
  · have old : ∀ b o, hp.get? b = some o → h'.get? b = some o := fun b o e => k' b o (Nat.ne_of_lt (Nat.lt_succ_of_lt (Heap.lt_size e))) (k b o e)
    have z : hp.objs.size + 1 + 1 ≤ dx := by
      first
        | (simpa only [Heap.size_push] using dn)
        | exact dn
        | (have q := dn; rw [Heap.size_push, Heap.size_push] at q; exact q)
    exact ⟨rfl, hq h' tk' (hp.objs.size + 1) dx ⟨old, Nat.le_succ _, ⟨_, _, hx, rfl, rfl, rfl, rfl⟩, Nat.le_trans (Nat.le_trans (Nat.le_succ _) (Nat.le_succ _)) z, dne, hns⟩⟩
end
section
variable {X : Cx} {C fI : Addr} {pins : List (Addr × Obj)} {σ : L2.St} {H : Hp}
/-- .. laid and tracked -/
theorem xd_made {s : Shared} {Q : VK} {us : List Value} {kw : List (Str × Value)} {fsV : List (Str × V)} {fs : List (Str × Value)} (T : ExT X.K C) (iC : PySem.W.findIn X.K (.ref C) "__init__" = some (some (.ref fI))) (tC : PySem.W.typeIn X.K (.ref fI) = some (.type "function")) (hl : us.length ≤ 10) (rv : Paired (fun (p : Str × V) (q : Str × Value) => p.1 = q.1 ∧ RelV p.2 q.2) fsV fs)
    (ini : ∀ (A' : Around) (s' : Shared) (R' : Result → Shared → Prop) (x t0 : Addr), X.K.In s'.heap → X.K.lookup x = none → s'.heap.NoLimit → s'.heap.get? x = some (xobj C t0) → A'.depth < recursionLimit → (∀ h' tk dx, IniEnd s'.heap h' x C dx t0 fs → R' (.ok (.ret .none)) { s' with heap := h', toks := tk }) → codeAny (model X.prog X.w) A' (.call (.ref fI) ⟨.ref x :: us, kw⟩) R' s')
    (hroom : X.A.depth + 1 < recursionLimit) (I : Inv X pins σ H s) (q : ∀ (e d : Addr) (o : Obj), H e = none → H d = none → d ≠ e → o.cls = .ref C → (∃ vs, o.data = .fields vs) → o.dict = some d → Q (.ref e) (upd (upd H d (.xd fsV)) e (.frz o (.own e)))) : wpAny (model X.prog X.w) X.A (call (.ref C) us kw) (EP X pins σ Q) X.xe s := by
  have hlim := I.nolimit
  have KI := I.kIn
  obtain ⟨hp, g, dr, tk, os⟩ := s
  refine wpAny_call (x_madeK T iC tC hl KI hlim hroom ini fun h' tk' e d M => ?_)
  show EP X pins σ Q (.ref e) ⟨h', g, dr, tk', os⟩
  obtain ⟨oe, fv, hoe, hc, hd, hdat, h1⟩ := M.obj
  have hns := M.ns
  obtain ⟨G', g1, g2⟩ := restrict h' fun b => decide (b ≠ e)
  have gk : ∀ b, b ≠ e → G'.get? b = h'.get? b := fun b hb => g1 b (decide_eq_true hb)
  have ge : G'.get? e = none := g2 e (by simp)
  have old : ∀ b o, hp.get? b = some o → G'.get? b = some o := fun b o q => (gk b (Nat.ne_of_lt (Nat.lt_of_lt_of_le (Heap.lt_size q) M.new))).trans (M.keep b o q)
  have ob : ObjOk X.prog X.w (upd H d (.xd fsV)) G' d (.xd fsV) := ⟨_, hns.at (fun o q => (gk d M.dne).trans q), fun f => relO_all rv f⟩
  have J : Inv X pins σ (upd H d (.xd fsV)) ⟨G', g, dr, tk', os⟩ := I.laid (t' := tk') old M.dbig ob
  have hHe : H e = none := I.hok.fresh M.new
  have hHd : H d = none := I.hok.fresh M.dbig
  have he2 : upd H d (.xd fsV) e = none := by rw [upd_ne (Ne.symm M.dne)]; exact hHe
  have J2 : Inv X pins σ (upd (upd H d (.xd fsV)) e (.frz oe (.own e))) ⟨h', g, dr, tk', os⟩ := J.laidN (t' := tk') (h' := h') (fun b o q => by
    by_cases hb : b = e
    · have q' : G'.get? b = some o := q
      rw [hb, ge] at q'; cases q'
    · exact (gk b hb).symm.trans q) ge he2 ⟨hoe, ⟨oe, hoe⟩⟩
  exact ⟨.ref e, _, J2, rfl, q e d oe hHe hHd M.dne hc ⟨_, hdat⟩ hd⟩
/-- C() of a class without an own __init__ -/
theorem xd_made0 {s : Shared} {Q : VK} {bmB : List Value} {B newId initId : String} (F : ExcBaseFacts B newId initId bmB) (qx : PySem.W.excIn X.K C bmB newId = true) (I : Inv X pins σ H s)
    (q : ∀ (e : Addr) (o : Obj), H e = none → o.cls = .ref C → (∃ vs, o.data = .fields vs) → o.dict = none → Q (.ref e) (upd H e (.frz o (.own e)))) : wpAny (model X.prog X.w) X.A (call (.ref C) []) (EP X pins σ Q) X.xe s := by
  obtain ⟨bm, N, nm, qn, bs, hdct, sn, sub, ab, col, dd, k0, k1, k2, k3, k5, mN, hC, hN, hni, TT⟩ := exc_obj I.kIn qx
  obtain ⟨hp, g, dr, tk, os⟩ := s
  refine wpAny_call_exc_subT F TT hC hN hni (fun h' e hm => ?_) (by show 0 ≤ sizeLine; omega)
  obtain ⟨t, he, _, _⟩ := hm.there
  have hHe : H e = none := I.hok.gone hm.new
  have J : Inv X pins σ (upd H e (.frz _ (.own e))) ⟨h', g, dr, tk, os⟩ := I.laidN (t' := tk) (h' := h') hm.keeps hm.new hHe ⟨he, ⟨_, he⟩⟩
  exact ⟨.ref e, _, J, rfl, q e _ hHe rfl ⟨_, rfl⟩ rfl⟩
end
/-- an exception class with the fields index, told -/
structure XcN2 (G : GX) (x : Str) (c k j : Nat) : Prop where
  ex : ∃ (C fI : Addr), G.mg x = some (.ref C) ∧ G.W.cls c = some C ∧ ExT G.W.K C ∧ Ini2 G.W.K fI ∧ PySem.W.findIn G.W.K (.ref C) "__init__" = some (some (.ref fI)) ∧ PySem.W.typeIn G.W.K (.ref fI) = some (.type "function") ∧ NoAttr G.W.K C "index" ∧ NoAttr G.W.K C "told" ∧ k < G.W.nn ∧ G.W.nm k = "index" ∧ j < G.W.nn ∧ G.W.nm j = "told"
theorem xc2_ok {G : GX} {x : Str} {c k j : Nat} (he : ExT G.W.K (He.ga G.W.K x)) (h : xc2B G.W.K x = true) (hm : G.mg x = some (.ref (He.ga G.W.K x))) (hc : G.W.cls c = some (He.ga G.W.K x)) (hk : k < G.W.nn) (hn : G.W.nm k = "index") (hj : j < G.W.nn) (hj2 : G.W.nm j = "told") : XcN2 G x c k j := by
  unfold xc2B at h
  simp only [Bool.and_eq_true, decide_eq_true_eq] at h
  exact ⟨_, _, hm, hc, he, ini2_ok h.1, He.eqO_ok h.2.1, h.2.2.1, He.eqO_ok h.2.2.2.1, He.eqO_ok h.2.2.2.2, hk, hn, hj, hj2⟩
/-- C(v), C(f=v) -/
def shXd1p (x : Str) : Scope → Expr → Option (List Expr) := fun sc e => match e with
  | .Call (.Name y _) [v] [] _ => if (decide (y = x) && (glb sc y && (nodbg y && notStar v))) = true then some [v] else none
  | _ => none
def shXd1k (x f : Str) : Scope → Expr → Option (List Expr) := fun sc e => match e with
  | .Call (.Name y _) [] [⟨some k, v, _⟩] _ => if (decide (y = x) && (decide (k = f) && (glb sc y && nodbg y))) = true then some [v] else none
  | _ => none
def shXd1 (b : Bool) (x f : Str) : Scope → Expr → Option (List Expr) := if b then shXd1k x f else shXd1p x
def semXd1 (c k : Nat) : List Ev → Ev
  | [fa] => fun z => (fa z).bind fun x => if x.1.plain = true then some (.exc c [(k, x.1)], x.2) else none
  | _ => fun _ => none
theorem rep_exc1 {W : Wd} {ι : List Addr} {H : Hp} {c k : Nat} {C e d : Addr} {o : Obj} {f : Str} {v : V} {x : D} (hc : W.cls c = some C) (ho : o.cls = .ref C) (hv : ∃ vs, o.data = .fields vs) (hd : o.dict = some d) (he : H e = none) (hHd : H d = none) (hne : d ≠ e) (kn : k < W.nn) (nm : W.nm k = f) (na : NoAttr W.K C f) (p : x.plain = true) (r : Rep W ι H x v) :
    Kp ι H ι (upd (upd H d (.xd [(f, v)])) e (.frz o (.own e))) ∧ Rep W ι (upd (upd H d (.xd [(f, v)])) e (.frz o (.own e))) (.exc c [(k, x)]) (.ref e) := by
  have k1 : Kp ι H ι (upd H d (.xd [(f, v)])) := Kp.alloc hHd
  have he2 : upd H d (.xd [(f, v)]) e = none := by rw [upd_ne (Ne.symm hne)]; exact he
  have k2 : Kp ι H ι (upd (upd H d (.xd [(f, v)])) e (.frz o (.own e))) := k1.trans (Kp.alloc he2)
  refine ⟨k2, ?_⟩
  unfold Rep
  refine ⟨e, o, C, [(f, v)], rfl, hc, upd_same, ho, hv, .inr ⟨d, hd, by rw [upd_ne hne, upd_same]⟩, ?_⟩
  unfold RepF
  exact ⟨v, [], by rw [nm], kn, by rw [nm]; exact na, p, r.kp k2 p, by unfold RepF; rfl⟩
theorem xd1N {G : GX} {lv : Nat} {b : Bool} {x f : Str} {c k : Nat} (nd : XcN1 G x c k) (hf : G.W.nm k = f) : ExtN G lv (shXd1 b x f) (semXd1 c k) := by
  intro N sc X fx e vs hs fs hp B
  obtain ⟨C, fI, f', hm, hc, T, F, hfi, iC, tC, na, kn, nm⟩ := nd.ex
  obtain rfl : f' = f := nm.symm.trans hf
  have hK : X.K = G.W.K := fx.k
  have rm := fx.room.dp
  have pre : ∀ (fa : Ev) (σ : L2.St) (H : Hp) (Q : VK), tev G.W B (semXd1 c k [fa]) σ H Q → tevA G.W B ([fa].foldr fCons fNil) σ H fun us H1 => ∃ (v1 : V) (x : D) (z' : Z) (ι1 : List Addr), us = [v1] ∧ x.plain = true ∧ XRep G.W ι1 H1 σ x v1 ∧ ZR G.W B ι1 H1 σ z' ∧ ∀ (v : V) (ι2 : List Addr) (H2 : Hp), Kp ι1 H1 ι2 H2 → XRep G.W ι2 H2 σ (.exc c [(k, x)]) v → ZR G.W B ι2 H2 σ z' → Q v H2 := fun fa σ H Q h => by
    obtain ⟨ι, z, d, z', zr, e1, kk⟩ := h
    replace e1 : ((fa z).bind fun x => if x.1.plain = true then some (D.exc c [(k, x.1)], x.2) else none) = some (d, z') := e1
    cases ea : fa z with
    | none => rw [ea] at e1; cases e1
    | some xx =>
      rw [ea, Option.bind_some] at e1
      split at e1
      case isFalse => cases e1
      rename_i hpl
      cases e1
      have e2 : [fa].foldr fCons fNil z = some ([xx.1], xx.2) := by
        show fCons fa fNil z = _
        unfold fCons
        rw [ea]; rfl
      refine ⟨ι, z, _, _, zr, e2, fun us ι1 H1 k1 r1 zr1 => ?_⟩
      cases r1 with
      | cons h t =>
        cases t
        exact ⟨_, xx.1, xx.2, ι1, rfl, hpl, h, zr1, fun v ι2 H2 k2 r2 zr2 => kk v ι2 H2 (k1.trans k2) r2 zr2⟩
  have fin : ∀ {pins : List (Addr × Obj)} {s : Shared} {σ : L2.St} {H : Hp} {Q : VK} {us : List Value} {vs : List V}, Inv X pins σ H s → Vals vs us → (∃ (v1 : V) (x : D) (z' : Z) (ι1 : List Addr), vs = [v1] ∧ x.plain = true ∧ XRep G.W ι1 H σ x v1 ∧ ZR G.W B ι1 H σ z' ∧ ∀ (v : V) (ι2 : List Addr) (H2 : Hp), Kp ι1 H ι2 H2 → XRep G.W ι2 H2 σ (.exc c [(k, x)]) v → ZR G.W B ι2 H2 σ z' → Q v H2) →
      ∃ u, us = [u] ∧ wpAny (model X.prog X.w) X.A (call (.ref C) (args1 b f' u).1 (args1 b f' u).2) (EP X pins σ Q) X.xe s := fun {pins s σ H Q us vs} I r h => by
    obtain ⟨v1, x, z', ι1, rfl, hpl, r1, zr1, kk⟩ := h
    cases r with
    | cons ru t =>
      cases t
      rename_i u
      refine ⟨u, rfl, ?_⟩
      refine xd_made (fsV := [(f', v1)]) (fs := [(f', u)]) (hK ▸ T) (hK ▸ iC) (hK ▸ tC) (by cases b <;> simp [args1]) (.cons ⟨rfl, ru⟩ .nil) (fun A' s' R' x t0 h1 _ h2 h3 h4 h5 => x_init1K b (hK ▸ T) (hK ▸ F) hfi (hK ▸ na) h1 h2 h3 h4 h5) (by omega) I fun e d o he hd hne ho hv hdd => ?_
      obtain ⟨k2, r2⟩ := rep_exc1 (f := f') hc ho hv hdd he hd hne kn nm na hpl (r1.rep hpl)
      have he2 : upd H d (.xd [(f', v1)]) e = none := by rw [upd_ne (Ne.symm hne)]; exact he
      exact kk _ ι1 _ k2 (XRep.of rfl r2) ((zr1.alloc hd).alloc he2)
  have kC : PySem.W.keepIn X.K (.ref C) = true := by rw [hK]; exact T.kC
  cases b with
  | false =>
    replace hs : shXd1p x sc e = some vs := hs
    unfold shXd1p at hs
    split at hs
    · rename_i y p v pos
      split at hs
      case isFalse => cases hs
      rename_i hh
      simp only [Bool.and_eq_true, decide_eq_true_eq] at hh
      obtain ⟨rfl, h1, h2, h3⟩ := hh
      cases hs
      match fs, hp B with
      | [fa], hpB =>
        have hg : Gl X y := show X.env.scope.names.lookup _ = _ by rw [fx.sc]; exact glb_ok h1
        have pa := fEs hpB (by rw [List.all_cons, h3]; rfl)
        refine ⟨fun pins s σ H Q I h => wpAny_Call_Name_kw (ld_glob I hg (by rw [fx.mg]; exact hm) ?_ (nodbg_ok h2).1)⟩
        refine PySem.W.callWith_K (h₀ := X.base) I.ok.mod.kin kC (thn (pa.run pos pins s σ H _ I (pre fa σ H Q h)) fun us s1 ⟨vs, H1, I1, r, q⟩ => ⟨I1.kIn, ?_⟩) (star_ok h3) (by rfl)
        obtain ⟨u, rfl, hw⟩ := fin I1 r q
        exact hw
    · cases hs
  | true =>
    replace hs : shXd1k x f' sc e = some vs := hs
    unfold shXd1k at hs
    split at hs
    · rename_i y p kw v kpos pos
      split at hs
      case isFalse => cases hs
      rename_i hh
      simp only [Bool.and_eq_true, decide_eq_true_eq] at hh
      obtain ⟨rfl, rfl, h1, h2⟩ := hh
      cases hs
      match fs, hp B with
      | [fa], hpB =>
        have hg : Gl X y := show X.env.scope.names.lookup _ = _ by rw [fx.sc]; exact glb_ok h1
        have pk := fKs (kws := [⟨some kw, v, kpos⟩]) hpB
        refine ⟨fun pins s σ H Q I h => wpAny_Call_Name_kw (ld_glob I hg (by rw [fx.mg]; exact hm) ?_ (nodbg_ok h2).1)⟩
        refine PySem.W.callWith_KW0 (first := []) (h₀ := X.base) I.ok.mod.kin kC (by rfl) (thn (pk.run pos pins s σ H _ I (pre fa σ H Q h)) fun us s1 ⟨vs, H1, I1, r, q⟩ => ⟨I1.kIn, ?_⟩) (by rfl)
        obtain ⟨u, rfl, hw⟩ := fin I1 r q
        exact hw
    · cases hs
/-- Broken(u, v), Broken(told=v, index=u) -/
def shXd2p (x : Str) : Scope → Expr → Option (List Expr) := fun sc e => match e with
  | .Call (.Name y _) [u, v] [] _ => if (decide (y = x) && (glb sc y && (nodbg y && (notStar u && notStar v)))) = true then some [u, v] else none
  | _ => none
def shXd2k (x : Str) : Scope → Expr → Option (List Expr) := fun sc e => match e with
  | .Call (.Name y _) [] [⟨some k, v, _⟩, ⟨some j, u, _⟩] _ => if (decide (y = x) && (decide (k = "told") && (decide (j = "index") && (glb sc y && nodbg y)))) = true then some [v, u] else none
  | _ => none
def shXd2 (b : Bool) (x : Str) : Scope → Expr → Option (List Expr) := if b then shXd2k x else shXd2p x
def semXd2 (b : Bool) (c k j : Nat) : List Ev → Ev
  | [fa, fb] => fun z => (fa z).bind fun x => (fb x.2).bind fun y => if (x.1.plain && y.1.plain) = true then some (if b then (.exc c [(j, x.1), (k, y.1)], y.2) else (.exc c [(j, y.1), (k, x.1)], y.2)) else none
  | _ => fun _ => none
theorem xd2N {G : GX} {lv : Nat} {b : Bool} {x : Str} {c k j : Nat} (nd : XcN2 G x c k j) : ExtN G lv (shXd2 b x) (semXd2 b c k j) := by
  intro N sc X fx e vs hs fs hp B
  obtain ⟨C, fI, hm, hc, T, F, iC, tC, na, nb, kn, nm, jn, jm⟩ := nd.ex
  have hK : X.K = G.W.K := fx.k
  have rm := fx.room.dp
  have pre : ∀ (fa fb : Ev) (σ : L2.St) (H : Hp) (Q : VK), tev G.W B (semXd2 b c k j [fa, fb]) σ H Q → tevA G.W B ([fa, fb].foldr fCons fNil) σ H fun us H1 => ∃ (v1 v2 : V) (x y : D) (z' : Z) (ι1 : List Addr), us = [v1, v2] ∧ x.plain = true ∧ y.plain = true ∧ XRep G.W ι1 H1 σ x v1 ∧ XRep G.W ι1 H1 σ y v2 ∧ ZR G.W B ι1 H1 σ z' ∧ ∀ (v : V) (ι2 : List Addr) (H2 : Hp), Kp ι1 H1 ι2 H2 → XRep G.W ι2 H2 σ (if b then .exc c [(j, x), (k, y)] else .exc c [(j, y), (k, x)]) v → ZR G.W B ι2 H2 σ z' → Q v H2 := fun fa fb σ H Q h => by
    obtain ⟨ι, z, d, z', zr, e1, kk⟩ := h
    replace e1 : ((fa z).bind fun x => (fb x.2).bind fun y => if (x.1.plain && y.1.plain) = true then some (if b then (D.exc c [(j, x.1), (k, y.1)], y.2) else (D.exc c [(j, y.1), (k, x.1)], y.2)) else none) = some (d, z') := e1
    cases ea : fa z with
    | none => rw [ea] at e1; cases e1
    | some xx =>
      rw [ea, Option.bind_some] at e1
      cases eb : fb xx.2 with
      | none => rw [eb] at e1; cases e1
      | some yy =>
        rw [eb, Option.bind_some] at e1
        split at e1
        case isFalse => cases e1
        rename_i hpl
        rw [Bool.and_eq_true] at hpl
        have e2 : [fa, fb].foldr fCons fNil z = some ([xx.1, yy.1], yy.2) := by
          show fCons fa (fCons fb fNil) z = _
          unfold fCons
          rw [ea]
          show Option.map _ (Option.bind (fb xx.2) _) = _
          rw [eb]; rfl
        have hz : d = (if b then D.exc c [(j, xx.1), (k, yy.1)] else D.exc c [(j, yy.1), (k, xx.1)]) ∧ z' = yy.2 := by
          cases b <;> (cases e1; exact ⟨rfl, rfl⟩)
        refine ⟨ι, z, _, _, zr, e2, fun us ι1 H1 k1 r1 zr1 => ?_⟩
        cases r1 with
        | cons h t =>
          cases t with
          | cons h2 t =>
            cases t
            exact ⟨_, _, xx.1, yy.1, yy.2, ι1, rfl, hpl.1, hpl.2, h, h2, zr1, fun v ι2 H2 k2 r2 zr2 => kk v ι2 H2 (k1.trans k2) (by rw [hz.1]; exact r2) (by rw [hz.2]; exact zr2)⟩
  have core : ∀ {pins : List (Addr × Obj)} {s : Shared} {σ : L2.St} {H : Hp} {Q : VK} {u v : Value} {vu vv : V} {du dv : D} {z' : Z} {ι1 : List Addr}, Inv X pins σ H s → RelV vu u → RelV vv v → du.plain = true → dv.plain = true → XRep G.W ι1 H σ du vu → XRep G.W ι1 H σ dv vv → ZR G.W B ι1 H σ z' → (∀ (w : V) (ι2 : List Addr) (H2 : Hp), Kp ι1 H ι2 H2 → XRep G.W ι2 H2 σ (.exc c [(j, dv), (k, du)]) w → ZR G.W B ι2 H2 σ z' → Q w H2) →
      wpAny (model X.prog X.w) X.A (call (.ref C) (args2 b u v).1 (args2 b u v).2) (EP X pins σ Q) X.xe s := fun {pins s σ H Q u v vu vv du dv z' ι1} I ru rv pu pv xu xv zr1 kk => by
    refine xd_made (fsV := [("told", vv), ("index", vu)]) (fs := [("told", v), ("index", u)]) (hK ▸ T) (hK ▸ iC) (hK ▸ tC) (by cases b <;> simp [args2]) (.cons ⟨rfl, rv⟩ (.cons ⟨rfl, ru⟩ .nil)) (fun A' s' R' x t0 h1 hx h2 h3 h4 h5 => x_init2K b (hK ▸ T) (hK ▸ F) (hK ▸ na) (hK ▸ nb) hx h1 h2 h3 h4 h5) (by omega) I fun e d o he hd hne ho hv hdd => ?_
    have k1 : Kp ι1 H ι1 (upd H d (.xd [("told", vv), ("index", vu)])) := Kp.alloc hd
    have he2 : upd H d (.xd [("told", vv), ("index", vu)]) e = none := by rw [upd_ne (Ne.symm hne)]; exact he
    have k2 : Kp ι1 H ι1 (upd (upd H d (.xd [("told", vv), ("index", vu)])) e (.frz o (.own e))) := k1.trans (Kp.alloc he2)
    refine kk _ ι1 _ k2 (XRep.of rfl ?_) ((zr1.alloc hd).alloc he2)
    unfold Rep
    refine ⟨e, o, C, [("told", vv), ("index", vu)], rfl, hc, upd_same, ho, hv, .inr ⟨d, hdd, by rw [upd_ne hne, upd_same]⟩, ?_⟩
    unfold RepF
    refine ⟨vv, [("index", vu)], by rw [jm], jn, by rw [jm]; exact nb, pv, (xv.rep pv).kp k2 pv, ?_⟩
    unfold RepF
    exact ⟨vu, [], by rw [nm], kn, by rw [nm]; exact na, pu, (xu.rep pu).kp k2 pu, by unfold RepF; rfl⟩
  have kC : PySem.W.keepIn X.K (.ref C) = true := by rw [hK]; exact T.kC
  cases b with
  | false =>
    replace hs : shXd2p x sc e = some vs := hs
    unfold shXd2p at hs
    split at hs
    · rename_i y p u v pos
      split at hs
      case isFalse => cases hs
      rename_i hh
      simp only [Bool.and_eq_true, decide_eq_true_eq] at hh
      obtain ⟨rfl, h1, h2, h3, h4⟩ := hh
      cases hs
      match fs, hp B with
      | [fa, fb], hpB =>
        have hg : Gl X y := show X.env.scope.names.lookup _ = _ by rw [fx.sc]; exact glb_ok h1
        have pa := fEs hpB (by rw [List.all_cons, List.all_cons, h3, h4]; rfl)
        refine ⟨fun pins s σ H Q I h => wpAny_Call_Name_kw (ld_glob I hg (by rw [fx.mg]; exact hm) ?_ (nodbg_ok h2).1)⟩
        refine PySem.W.callWith_K (h₀ := X.base) I.ok.mod.kin kC (thn (pa.run pos pins s σ H _ I (pre fa fb σ H Q h)) fun us s1 ⟨vs, H1, I1, r, q⟩ => ⟨I1.kIn, ?_⟩) (star_ok h3) (any_ok (by rw [List.all_cons, h4]; rfl))
        obtain ⟨v1, v2, x, y, z', ι1, rfl, px, py, rx, ry, zr1, kk⟩ := q
        cases r with
        | cons r1 t =>
          cases t with
          | cons r2 t =>
            cases t
            have hw := core I1 r1 r2 px py rx ry zr1 kk
            unfold args2 at hw
            rw [if_neg Bool.false_ne_true] at hw
            exact hw
    · cases hs
  | true =>
    replace hs : shXd2k x sc e = some vs := hs
    unfold shXd2k at hs
    split at hs
    · rename_i y p k' v kpos j' u jpos pos
      split at hs
      case isFalse => cases hs
      rename_i hh
      simp only [Bool.and_eq_true, decide_eq_true_eq] at hh
      obtain ⟨rfl, rfl, rfl, h1, h2⟩ := hh
      cases hs
      match fs, hp B with
      | [fa, fb], hpB =>
        have hg : Gl X y := show X.env.scope.names.lookup _ = _ by rw [fx.sc]; exact glb_ok h1
        have pk := fKs (kws := [⟨some "told", v, kpos⟩, ⟨some "index", u, jpos⟩]) hpB
        obtain ⟨a1, a2, a3, a4⟩ := kws_ok (env := X.env) (pos := pos) (ks := [("told" : Str), "index"]) (kws := [⟨some "told", v, kpos⟩, ⟨some "index", u, jpos⟩]) (by simp [kwsOk])
        refine ⟨fun pins s σ H Q I h => wpAny_Call_Name_kw (ld_glob I hg (by rw [fx.mg]; exact hm) ?_ (nodbg_ok h2).1)⟩
        refine PySem.W.callWith_KW0 (first := []) (h₀ := X.base) I.ok.mod.kin kC a1 (thn (pk.run pos pins s σ H _ I (pre fa fb σ H Q h)) fun us s1 ⟨vs, H1, I1, r, q⟩ => ⟨I1.kIn, ?_⟩) (by rw [a3]; rfl)
        rw [a2]
        obtain ⟨v1, v2, x, y, z', ι1, rfl, px, py, rx, ry, zr1, kk⟩ := q
        cases r with
        | cons r1 t =>
          cases t with
          | cons r2 t =>
            cases t
            have hw := core I1 r2 r1 py px ry rx zr1 kk
            unfold args2 at hw
            rw [if_pos rfl] at hw
            rw [List.zip_cons_cons, List.zip_cons_cons, List.zip_nil_right]
            exact hw
    · cases hs
/-- C() -/
def shXd0 (x : Str) : Scope → Expr → Option (List Expr) := fun sc e => match e with
  | .Call (.Name y _) [] [] _ => if (decide (y = x) && (glb sc y && nodbg y)) = true then some [] else none
  | _ => none
def semXd0 (c : Nat) : List Ev → Ev := fun _ z => some (.exc c [], z)
theorem xd0N {G : GX} {lv : Nat} {x : Str} {c : Nat} (nd : XcN0 G x c) : ExtN G lv (shXd0 x) (semXd0 c) := by
  intro N sc X fx e vs hs fs hp B
  obtain ⟨C, bmB, B0, newId, initId, hm, hc, T, F, qx⟩ := nd.ex
  have hK : X.K = G.W.K := fx.k
  unfold shXd0 at hs
  split at hs
  case h_2 => cases hs
  rename_i y p pos
  split at hs
  case isFalse => cases hs
  rename_i hh
  simp only [Bool.and_eq_true, decide_eq_true_eq] at hh
  obtain ⟨rfl, h1, h2⟩ := hh
  cases hs
  have hg : Gl X y := show X.env.scope.names.lookup _ = _ by rw [fx.sc]; exact glb_ok h1
  refine ⟨fun pins s σ H Q I h => wpAny_Call_Name_kw (ld_glob I hg (by rw [fx.mg]; exact hm) ?_ (nodbg_ok h2).1)⟩
  refine PySem.W.callWith_K0 I.kIn (by rw [hK]; exact T.kC) ?_
  obtain ⟨ι, z, d, z', zr, e1, kk⟩ := h
  cases e1
  refine xd_made0 F (hK ▸ qx) I fun e o he ho hv hd => ?_
  refine kk _ ι _ (Kp.alloc he) (XRep.of rfl ?_) (zr.alloc he)
  unfold Rep
  exact ⟨e, o, C, [], rfl, hc, upd_same, ho, hv, .inl ⟨hd, rfl⟩, by unfold RepF; rfl⟩
end DE
set_option Elab.async false
set_option linter.all false
set_option maxRecDepth 100000
set_option maxHeartbeats 4000000
namespace DE
open PySem PySem.Spec PyProof.Rows L2
theorem obsL_eq {as : List Addr} {a1 : List He.Fa} {a2 : List He.DefD} {a3 : List He.Tab} {tf : List He.Defn} {a4 : PySem.W.Frag → Bool} {g : Addr → Option Obj} {s : Shared} (h : ∀ a, g a = s.heap.get? a) : obsL as a1 a2 a3 tf a4 g = (hookL as a1 a2 a3 tf a4).obs s := by
  obtain rfl : g = s.heap.get? := funext h
  rfl
end DE
set_option Elab.async false
set_option linter.all false
set_option maxRecDepth 100000
set_option maxHeartbeats 4000000
namespace DE
open PySem PySem.Spec PyProof.Rows L2
end DE
set_option Elab.async false
set_option linter.all false
set_option maxRecDepth 100000
set_option maxHeartbeats 1000000
namespace DE
open PySem PySem.Spec PyProof.Rows L2
/-- where an exception's object stands -/
theorem exc_at {X : Cx} {pins : List (Addr × Obj)} {σ : L2.St} {H : Hp} {s : Shared} {a C : Addr} {o : Obj} {fvs : List (Str × V)} (I : Inv X pins σ H s) (ha : H a = some (.frz o (.own a))) (ho : o.cls = .ref C) (hv : ∃ vs, o.data = .fields vs) (hx : XdOf H o fvs) :
    ∃ od, PySem.W.InstAt s.heap a o C od := by
  have hget : s.heap.get? a = some o := (I.hok a _ ha).1
  obtain ⟨vs, hvs⟩ := hv
  rcases hx with ⟨h0, _⟩ | ⟨dd, h1, h2⟩
  · exact ⟨none, hget, ho, by unfold PySem.W.notCls; rw [hvs] <;> rfl, by rw [h0]; trivial⟩
  · have hx : ObjOk X.prog X.w H s.heap dd (.xd fvs) := I.hok dd _ h2
    obtain ⟨mA, hns, hr⟩ := hx
    obtain ⟨od, hod, hl⟩ := lookIn_ns hns
    exact ⟨some od, hget, ho, by unfold PySem.W.notCls; rw [hvs] <;> rfl, by rw [h1]; exact hod⟩
/-- isinstance(e, c) -/
theorem call_xisD {X : Cx} : CallR X (.builtin "isinstance") (fun xs H Q => ∃ (a C : Addr) (o : Obj) (fvs : List (Str × V)) (c : V) (cv : Value) (b : Bool), xs = [.ref a, c] ∧ ExT X.K C ∧ H a = some (.frz o (.own a)) ∧ o.cls = .ref C ∧ (∃ vs, o.data = .fields vs) ∧ XdOf H o fvs ∧ (∀ u, RelV c u → u = cv) ∧ PySem.W.kitOne X.K (.ref C) cv = some b ∧ Q (.bl b) H) := by
  intro pins s σ H xs us Q I r h
  obtain ⟨a, C, o, fvs, c, cv, b, rfl, T, ha, ho, hv, hx, hcv, e, q⟩ := h
  cases r with
  | cons rx rr =>
    cases rr with
    | cons rt rr =>
      cases rr
      cases rx
      have ec := hcv _ rt
      subst ec
      have hcl : (PySem.W.clsIn X.K C).isSome = true := by
        have := T.hdC
        unfold PySem.W.hasDictIn at this
        obtain ⟨cd, hc, _⟩ := PySem.W.any_some this
        rw [hc]; rfl
      obtain ⟨od, J⟩ := exc_at I ha ho hv hx
      exact PySem.W.kia_one (PySem.W.kitx_exc hcl T.ga T.gg T.exC T.hk T.gk T.tk T.mo) I.kIn J e (fun z => nomatch z) fun tk => ⟨.bl b, H, I.kept (t' := tk) fun _ _ z => z, rfl, q⟩
def isxB (isx tb : Nat → Bool) : D → Option Bool
  | .exc c _ => if isx c = true then some (tb c) else none
  | _ => none
def semIsX (isx tb : Nat → Bool) : List Ev → Ev
  | [fa] => fun z => (fa z).bind fun x => (isxB isx tb x.1).map fun b => (.bl b, x.2)
  | _ => fun _ => none
theorem isXN {G : GX} {lv : Nat} {T : Str} {isx tb : Nat → Bool} {CT : Value} {VT : V} (h0 : G.mg "isinstance" = none) (hTg : ∀ X : Cx, X.mg = G.mg → Gl X T → ∀ p, (T == ("__debug__" : Str)) = false → PE X (.Name T p) (tC VT)) (hu : ∀ u, RelV VT u → u = CT) (hk : ∀ c C, G.W.cls c = some C → isx c = true → PySem.W.kitOne G.W.K (.ref C) CT = some (tb c)) (hx : ∀ c C, isx c = true → G.W.cls c = some C → ExT G.W.K C) :
    ExtN G lv (shIsi T) (semIsX isx tb) := by
  intro N sc X fx e vs hs fs hp B
  unfold shIsi at hs
  split at hs
  case h_2 => cases hs
  rename_i y p v t pt pos
  split at hs
  case isFalse => cases hs
  rename_i h
  cases hs
  obtain ⟨rfl, rfl, g1, g2, nd, ns⟩ := h
  have gy : Gl X "isinstance" := show X.env.scope.names.lookup _ = _ by rw [fx.sc]; exact glb_ok g1
  have gt : Gl X t := show X.env.scope.names.lookup _ = _ by rw [fx.sc]; exact glb_ok g2
  have hK : X.K = G.W.K := fx.k
  match fs, hp B with
  | [fa], .cons hv .nil =>
    have pt' := hTg X fx.mg gt pt (nodbg_ok nd).1
    refine pe_mono (pe_callB (pos := pos) call_xisD gy (by rw [fx.mg]; exact h0) (show bootBuiltins "isinstance" = some (.builtin "isinstance") by decide +kernel) (pa_cons hv (pa_cons pt' pa_nil) (star_ok ns)) (by decide) (by decide) (star_ok ns) rfl) fun σ H Q q => ?_
    obtain ⟨ι, z, d, z', zr, e1, kk⟩ := q
    replace e1 : ((fa z).bind fun x => (isxB isx tb x.1).map fun b => (D.bl b, x.2)) = some (d, z') := e1
    cases ea : fa z with
    | none => rw [ea] at e1; cases e1
    | some x =>
      rw [ea, Option.bind_some] at e1
      obtain ⟨x1, x2⟩ := x
      cases x1 with
      | exc c fs0 =>
        replace e1 : (if isx c = true then some (tb c) else none).map (fun b => (D.bl b, x2)) = some (d, z') := e1
        split at e1
        case isFalse => cases e1
        rename_i hc
        cases e1
        refine ⟨ι, z, .exc c fs0, _, zr, ea, fun v1 ι1 H1 k1 r1 zr1 => ?_⟩
        obtain ⟨_, r1⟩ := r1
        unfold Rep at r1
        obtain ⟨a, o, C, fvs, rfl, hC, ha, ho, hv, hxd, rf⟩ := r1
        exact ⟨a, C, o, fvs, VT, CT, tb c, rfl, hK ▸ hx c C hc hC, ha, ho, hv, hxd, hu, by rw [hK]; exact hk c C hC hc, kk _ ι1 H1 k1 ⟨rfl, by unfold Rep; rfl⟩ zr1⟩
      | _ => cases e1
/-- e.f -/
def fldX (isx : Nat → Bool) (k : Nat) : D → Option D
  | .exc c fs => if isx c = true then fs.lookup k else none
  | _ => none
def semXfld (isx : Nat → Bool) (k : Nat) : List Ev → Ev
  | [fa] => fun z => (fa z).bind fun x => (fldX isx k x.1).map fun d => (d, x.2)
  | _ => fun _ => none
theorem xfldN {G : GX} {lv : Nat} {f : Str} {isx : Nat → Bool} {k : Nat} (hk : k < G.W.nn) (hf : G.W.nm k = f) (inj : Inj G.W) (hx : ∀ c C, isx c = true → G.W.cls c = some C → ExT G.W.K C) : ExtN G lv (shFld f) (semXfld isx k) := by
  intro N sc X fx e vs hs fs hp B
  unfold shFld at hs
  split at hs
  case h_2 => cases hs
  rename_i o' g p
  split at hs
  case isFalse => cases hs
  rename_i h
  cases hs
  obtain ⟨rfl, hn⟩ := h
  have hK : X.K = G.W.K := fx.k
  match fs, hp B with
  | [fa], .cons hv .nil =>
    refine ⟨fun pins s σ H Q I q => ?_⟩
    obtain ⟨ι, z, d, z', zr, e1, kk⟩ := q
    replace e1 : ((fa z).bind fun x => (fldX isx k x.1).map fun d => (d, x.2)) = some (d, z') := e1
    cases ea : fa z with
    | none => rw [ea] at e1; cases e1
    | some x =>
      rw [ea, Option.bind_some] at e1
      obtain ⟨x1, x2⟩ := x
      cases x1 with
      | exc c fs0 =>
        replace e1 : (if isx c = true then fs0.lookup k else none).map (fun d => (d, x2)) = some (d, z') := e1
        split at e1
        case isFalse => cases e1
        rename_i hc
        cases el : fs0.lookup k with
        | none => rw [el] at e1; cases e1
        | some d0 =>
          rw [el] at e1
          cases e1
          refine attr_of (base_ok hn) (thn (hv.run pins s σ H (fun v1 H1 => ∃ ι1, Kp ι H ι1 H1 ∧ XRep G.W ι1 H1 σ (.exc c fs0) v1 ∧ ZR G.W B ι1 H1 σ z') I ⟨ι, z, _, _, zr, ea, fun v ι1 H1 k1 r1 zr1 => ⟨ι1, k1, r1, zr1⟩⟩) fun u s1 ⟨v1, H1, I1, ru, ι1, k1, r1, zr1⟩ => ?_)
          obtain ⟨_, r1⟩ := r1
          unfold Rep at r1
          obtain ⟨a, o, C, fvs, rfl, hC, ha, ho, hvv, hxd, rf⟩ := r1
          obtain rfl : u = Value.ref a := ru
          obtain ⟨v2, hl2, rv2, pl2, na2⟩ := rf.get (fun j hj ej => inj j k hj hk ej) el
          rw [hf] at hl2 na2
          have T := hx c C hc hC
          have hget : s1.heap.get? a = some o := (I1.hok a _ ha).1
          rcases hxd with ⟨_, h0⟩ | ⟨dd, h1, h2⟩
          · rw [h0] at hl2; cases hl2
          · have hxx : ObjOk X.prog X.w H1 s1.heap dd (.xd fvs) := I1.hok dd _ h2
            obtain ⟨mA, hns, hr⟩ := hxx
            obtain ⟨od, hod, hl⟩ := lookIn_ns hns
            obtain ⟨u2, hu2, ru2⟩ := RelO.some_of (v := v2) (o := mA g) (by rw [← hl2]; exact hr g)
            obtain ⟨vs2, hvs2⟩ := hvv
            have J : PySem.W.InstAt s1.heap a o C (some od) := ⟨hget, ho, by unfold PySem.W.notCls; rw [hvs2] <;> rfl, by rw [h1]; exact hod⟩
            rw [← hK] at T na2
            exact PySem.HandSPX.exc_get I1.kIn J T.ga T.gg T.exC (PySem.W.findObj_own T.hdC na2 rfl (by rw [hl, hu2])) (handed_of ru2) ⟨v2, H1, I1.tok _, ru2, kk v2 ι1 H1 k1 (XRep.of pl2 rv2) zr1⟩
      | _ => cases e1
/-- T of the program, T built-in -/
theorem isXO {G : GX} {lv : Nat} {T : Str} {isx tb : Nat → Bool} {A : Addr} (h0 : G.mg "isinstance" = none) (hT : G.mg T = some (.ref A)) (hk : ∀ c C, G.W.cls c = some C → isx c = true → PySem.W.kitOne G.W.K (.ref C) (.ref A) = some (tb c)) (hx : ∀ c C, isx c = true → G.W.cls c = some C → ExT G.W.K C) : ExtN G lv (shIsi T) (semIsX isx tb) :=
  isXN (CT := .ref A) (VT := .ref A) h0 (fun X hm hg p hd => pe_glob hg (by rw [hm]; exact hT) rfl hd) (fun u h => h) hk hx
theorem isXB {G : GX} {lv : Nat} {T : Str} {isx tb : Nat → Bool} {n : String} (h0 : G.mg "isinstance" = none) (hT : G.mg T = none) (hb : bootBuiltins T = some (.type n)) (hnn : T ≠ "__name__") (hk : ∀ c C, G.W.cls c = some C → isx c = true → PySem.W.kitOne G.W.K (.ref C) (.type n) = some (tb c)) (hx : ∀ c C, isx c = true → G.W.cls c = some C → ExT G.W.K C) : ExtN G lv (shIsi T) (semIsX isx tb) :=
  isXN (CT := .type n) (VT := .ty n) h0 (fun X hm hg p hd => pe_bltn hg (by rw [hm]; exact hT) hb rfl hnn hd) (fun u h => h) hk hx
end DE
set_option Elab.async false
set_option linter.all false
set_option maxRecDepth 100000
set_option maxHeartbeats 1000000
namespace DE
open PySem PySem.Spec PyProof.Rows L2 L2H Calls
mutual
def pyR : D → Option PyData
  | .non => some .none
  | .bl b => some (.bool b)
  | .int i => some (.int i)
  | .str s => some (.str (SX.S s))
  | .lst ds => (pyRL ds).map PyData.list
  | .tup ds => (pyRL ds).map PyData.tuple
  | .dic kvs => (pyRD kvs).map PyData.dict
  | _ => none
def pyRL : List D → Option (List PyData)
  | [] => some []
  | d :: ds => (pyR d).bind fun p => (pyRL ds).map fun ps => p :: ps
def pyRD : List (Key × D) → Option (List (PyData × PyData))
  | [] => some []
  | (k, d) :: r => (pyR d).bind fun x => (pyRD r).map ((encK k, x) :: ·)
end
/-- the table of modules is no list -/
def SysD (K : PySem.W.Frag) : Prop := ∃ o, K.lookup sysModules = some o ∧ o.cls = .type "dict"
theorem sysB_ok {K : PySem.W.Frag} (h : sysB K = true) : SysD K := by
  unfold sysB at h
  split at h
  · rename_i o e; exact ⟨o, e, by simpa using h⟩
  · cases h
section
variable {W : Wd} {ι : List Addr} {X : Cx} {pins : List (Addr × Obj)} {σ : L2.St} {H : Hp} {s : Shared}
theorem sys_free (I : Inv X pins σ H s) (S : SysD X.K) : H sysModules = none := by
  obtain ⟨o, e, _⟩ := S
  exact (I.bs sysModules o (I.ok.mod.kin _ _ e)).2
theorem sys_ne (I : Inv X pins σ H s) (S : SysD X.K) {a : Addr} {o : HO} (e : H a = some o) : a ≠ sysModules := fun q => by
  rw [q, sys_free I S] at e; cases e
theorem sys_list (I : Inv X pins σ H s) (S : SysD X.K) {a : Addr} {o : Obj} (e : s.heap.get? a = some o) (hc : o.cls = .type "list") : a ≠ sysModules := fun q => by
  obtain ⟨o', e', hc'⟩ := S
  have h := I.kIn _ _ e'
  rw [q, h] at e
  cases e
  rw [hc'] at hc
  injection hc with hc
  exact absurd hc (by decide)
mutual
theorem pyR_rd (hK : X.K = W.K) (I : Inv X pins σ H s) (S : SysD X.K) : ∀ (d : D) {v : V} {p : PyData} {u : Value}, pyR d = some p → Rep W ι H d v → RelV v u → ∃ as, Reads s.heap u p as ∧ sysModules ∉ as
  | .non, v, p, u, e, r, ru => by
    unfold pyR at e; unfold Rep at r; cases e; subst r
    obtain rfl : u = Value.none := ru
    exact ⟨[], .none, by simp⟩
  | .bl b, v, p, u, e, r, ru => by
    unfold pyR at e; unfold Rep at r; cases e; subst r
    obtain rfl : u = Value.bool b := ru
    exact ⟨[], .bool b, by simp⟩
  | .int i, v, p, u, e, r, ru => by
    unfold pyR at e; unfold Rep at r; cases e; subst r
    obtain ⟨t, rfl⟩ := ru
    exact ⟨[], .int i t, by simp⟩
  | .str x, v, p, u, e, r, ru => by
    unfold pyR at e; unfold Rep at r; cases e
    obtain ⟨rfl, _⟩ := r
    obtain ⟨t, rfl⟩ := ru
    exact ⟨[], .str _ t, by simp⟩
  | .lst ds, v, p, u, e, r, ru => by
    unfold pyR at e; unfold Rep at r
    obtain ⟨_, a, xs, rfl, fz, rl⟩ := r
    cases e1 : pyRL ds with
    | none => rw [e1] at e; cases e
    | some ps =>
      rw [e1] at e; cases e
      obtain rfl : u = Value.ref a := ru
      obtain ⟨its, rv, ⟨o, n, ho, hc, _, hd⟩, _⟩ := I.list (by rw [hK]; exact fz.sq)
      obtain ⟨as, hr, hn⟩ := pyRL_rd hK I S ds e1 rl rv
      exact ⟨a :: as, .list ho hc hd hr, fun hm => (List.mem_cons.mp hm).elim (fun q => sys_list I S ho hc q.symm) hn⟩
  | .tup ds, v, p, u, e, r, ru => by
    unfold pyR at e; unfold Rep at r
    obtain ⟨_, a, xs, rfl, ha, rl⟩ := r
    cases e1 : pyRL ds with
    | none => rw [e1] at e; cases e
    | some ps =>
      rw [e1] at e; cases e
      obtain rfl : u = Value.ref a := ru
      obtain ⟨_, its, rv, o, ho, hc, n, hd⟩ := (show ObjOk X.prog X.w H s.heap a (.tup xs) from I.hok a _ ha)
      obtain ⟨as, hr, hn⟩ := pyRL_rd hK I S ds e1 rl rv
      exact ⟨as, .tuple ho hc hd (by simpa using hr), hn⟩
  | .dic kvs, v, p, u, e, r, ru => by
    unfold pyR at e; unfold Rep at r
    obtain ⟨_, a, o, kv, rfl, ha, rd⟩ := r
    cases e1 : pyRD kvs with
    | none => rw [e1] at e; cases e
    | some ps =>
      rw [e1] at e; cases e
      obtain rfl : u = Value.ref a := ru
      obtain ⟨_, _, hs, vs, hkv, hd⟩ := (show ObjOk X.prog X.w H s.heap a (.frz o (.dK kv)) from I.hok a _ ha)
      obtain ⟨bs, hr, hn⟩ := pyRD_rd hK I S kvs e1 rd hkv
      exact ⟨a :: bs, PyProof.V.reads_dictOf key_reads hd hr, fun hm => (List.mem_cons.mp hm).elim (fun q => sys_ne I S ha q.symm) hn⟩
  | .ins _ _, _, _, _, e, _, _ => by unfold pyR at e; cases e
  | .han _, _, _, _, e, _, _ => by unfold pyR at e; cases e
  | .bor _, _, _, _, e, _, _ => by unfold pyR at e; cases e
  | .brw _, _, _, _, e, _, _ => by unfold pyR at e; cases e
  | .fn _, _, _, _, e, _, _ => by unfold pyR at e; cases e
  | .ftp _, _, _, _, e, _, _ => by unfold pyR at e; cases e
  | .itp _, _, _, _, e, _, _ => by unfold pyR at e; cases e
  | .exc _ _, _, _, _, e, _, _ => by unfold pyR at e; cases e
  | .clo _ _, _, _, _, e, _, _ => by unfold pyR at e; cases e
  | .clc _ _ _, _, _, _, e, _, _ => by unfold pyR at e; cases e
theorem pyRL_rd (hK : X.K = W.K) (I : Inv X pins σ H s) (S : SysD X.K) : ∀ (ds : List D) {vs : List V} {ps : List PyData} {us : List Value}, pyRL ds = some ps → RepL W ι H ds vs → Vals vs us → ∃ as, ReadsAll s.heap us ps as ∧ sysModules ∉ as
  | [], vs, ps, us, e, r, ru => by
    unfold pyRL at e; unfold RepL at r; cases e; subst r
    cases ru
    exact ⟨[], .nil, by simp⟩
  | d :: ds, vs, ps, us, e, r, ru => by
    unfold pyRL at e; unfold RepL at r
    obtain ⟨v, w, rfl, _, r1, r2⟩ := r
    cases e1 : pyR d with
    | none => rw [e1] at e; cases e
    | some p =>
      rw [e1, Option.bind_some] at e
      cases e2 : pyRL ds with
      | none => rw [e2] at e; cases e
      | some qs =>
        rw [e2] at e; cases e
        cases ru with
        | cons h1 t =>
          obtain ⟨as, ra, na⟩ := pyR_rd hK I S d e1 r1 h1
          obtain ⟨bs, rb, nb⟩ := pyRL_rd hK I S ds e2 r2 t
          exact ⟨as ++ bs, .cons ra rb, fun hm => (List.mem_append.mp hm).elim na nb⟩
theorem pyRD_rd (hK : X.K = W.K) (I : Inv X pins σ H s) (S : SysD X.K) : ∀ (kvs : List (Key × D)) {kv : List (Key × V)} {ps : List (PyData × PyData)} {vs : List (Key × Value)}, pyRD kvs = some ps → RepD W ι H kvs kv → KV kv vs → ∃ bs, PyProof.V.PairsRead s.heap encK vs ps bs ∧ sysModules ∉ bs
  | [], kv, ps, vs, e, r, k => by
    unfold pyRD at e; cases e
    unfold RepD at r; subst r
    cases k
    exact ⟨[], .nil, by simp⟩
  | (k0, d) :: kvs, kv, ps, vs, e, r, k => by
    unfold pyRD at e
    cases e1 : pyR d with
    | none => rw [e1] at e; cases e
    | some x =>
      rw [e1, Option.bind_some] at e
      cases e2 : pyRD kvs with
      | none => rw [e2] at e; cases e
      | some ps' =>
        rw [e2] at e
        cases e
        unfold RepD at r
        obtain ⟨v, r', rfl, _, r1, r2⟩ := r
        cases k with
        | cons h1 h2 =>
          rename_i q vs'
          obtain ⟨k1, u⟩ := q
          obtain ⟨rfl, ru⟩ := h1
          obtain ⟨as, ra, na⟩ := pyR_rd hK I S d e1 r1 ru
          obtain ⟨bs, rb, nb⟩ := pyRD_rd hK I S kvs e2 r2 h2
          exact ⟨as ++ bs, .cons ra rb, fun hm => (List.mem_append.mp hm).elim na nb⟩
end
end
def reprYD (d : D) : Option D := (pyR d).bind fun p => if (p.showable && (Nat.ble p.depth 32 && Nat.ble p.shown.length 16777216)) = true then some (.str p.shown.cps.toList) else none
/-- repr of a list -/
theorem cr_reprY {X : Cx} {W : Wd} (hK : X.K = W.K) (S : SysD X.K) (hg : X.A.guards = some []) (hu : X.A.units + 65 < cLine) : CallR X (.builtin "repr") (fun vs H Q => ∃ ι ds p v, vs = [v] ∧ RRep W ι H (.lst ds) v ∧ pyR (.lst ds) = some p ∧ p.showable = true ∧ p.depth ≤ 32 ∧ p.shown.length ≤ sizeLine ∧ Q (.str p.shown) H) := by
  intro pins s σ H vs us Q I r h
  obtain ⟨ι, ds, p, v, rfl, hv, e, h1, h2, h3, hq⟩ := h
  obtain ⟨u, rfl, rx⟩ := vals1 r
  obtain ⟨la, a, xs, rfl, hx, rl⟩ := rrep_lst hv
  unfold pyR at e
  cases e1 : pyRL ds with
  | none => rw [e1] at e; cases e
  | some ps =>
    rw [e1] at e; cases e
    obtain rfl : u = Value.ref a := rx
    obtain ⟨its, rv, ⟨o, n, ho, hc, _, hd⟩, _⟩ := I.list (by rw [hK]; exact hx.sq)
    obtain ⟨as, hr, hn⟩ := pyRL_rd hK I S ds e1 rl rv
    exact repr_of_reads' (.list ho hc hd hr) h1 (fun _ hm => (List.mem_cons.mp hm).elim (fun q => sys_list I S ho hc q.symm) hn) hg (by omega) (fun _ _ e => e) (fun h' u tk hk => ⟨.str _, H, I.turnedL (ch := []) (fun b o _ e => hk b o e) (fun b hb => by cases hb), ⟨_, rfl⟩, hq⟩) h3
def reprYL : D → Option D
  | .lst ds => reprYD (.lst ds)
  | _ => none
theorem reprYN {W : Wd} (S : SysD W.K) : BcN W "repr" (f1 reprYL) := ⟨by decide, _, boot_rp, fun X ad => ⟨_, cr_reprY (W := W) ad.k (by rw [ad.k]; exact S) ad.gd ad.un, bcOk1 (fun ι H x v d Q e r k => by
  replace e : reprYL x = some d := e
  unfold reprYL at e
  split at e
  case h_2 => cases e
  rename_i ds
  unfold reprYD at e
  cases e1 : pyR (.lst ds) with
  | none => rw [e1] at e; cases e
  | some p =>
    rw [e1, Option.bind_some] at e
    split at e
    case isFalse => cases e
    rename_i hc
    cases e
    simp only [Bool.and_eq_true, Nat.ble_eq] at hc
    have hl : p.shown.length ≤ sizeLine := by rw [sizeLine_eq]; exact hc.2.2
    refine ⟨ι, ds, p, v, rfl, r, e1, hc.1, hc.2.1, hl, k _ H (fun _ _ e => e) rfl ?_⟩
    unfold Rep
    exact ⟨by show _ = V.str ⟨p.shown.cps.toList.toArray⟩; rw [Array.toArray_toList], by rw [Array.length_toList]; exact hl⟩) f1_ne⟩⟩
end DE
set_option Elab.async false
set_option linter.all false
set_option maxRecDepth 100000
set_option maxHeartbeats 4000000
namespace DE
open PySem PySem.Spec PyProof.Rows L2 NdefX
open LamX (CodeO)
end DE
set_option Elab.async false
set_option linter.all false
set_option maxRecDepth 100000
set_option maxHeartbeats 4000000
namespace DE
open PySem PySem.Spec PyProof.Rows L2 NdefX
open LamX (CodeO)
end DE
set_option Elab.async false
set_option linter.all false
set_option maxRecDepth 100000
set_option maxHeartbeats 4000000
namespace DE
open PySem PySem.Spec PyProof.Rows L2
end DE
set_option Elab.async false
set_option linter.all false
set_option maxRecDepth 100000
set_option maxHeartbeats 4000000
namespace DE
open PySem PySem.Spec PyProof.Rows L2 L2H
end DE
set_option Elab.async false
set_option linter.all false
set_option maxRecDepth 100000
set_option maxHeartbeats 1000000
namespace KK
open PySem PySem.Spec L2 L2H DE
/-- a clause: the class, its number, the word, the attribute and its number -/
abbrev HL := List (Str × Nat × List Nat × Option (Str × Nat))
/-- the classes of the clauses: where they stand, what they are, that none is below another -/
structure HlN (G : GX) (l : HL) : Prop where
  a : ∀ p ∈ l, ∃ C, G.mg p.1 = some (.ref C) ∧ G.W.cls p.2.1 = some C ∧ ExT G.W.K C
  b : ∀ p ∈ l, ∀ q ∈ l, ∀ C C', G.W.cls p.2.1 = some C → G.W.cls q.2.1 = some C' → PySem.W.exmOne G.W.K (.ref C) (.ref C') = some (p.2.1 == q.2.1)
  f : ∀ p ∈ l, ∀ q, p.2.2.2 = some q → q.2 < G.W.nn ∧ G.W.nm q.2 = q.1
end KK
set_option Elab.async false
set_option linter.all false
set_option maxRecDepth 100000
set_option maxHeartbeats 4000000
namespace KK
open PySem PySem.Spec L2 DE
def isxG : Nat → Bool := tbx [3, 4, 5, 6, 7, 8, 9, 10, 11, 12, 13, 14, 15, 16, 17, 18, 19, 20, 21, 22, 23, 24]
def ir_law_flags_k1 : Ss := (.cons (.set 1 (.fr (.dsp (.cons (.ext (shIsi "InvalidText") (semIsX isxG (tbx [5])) (.cons (.var 0) .nil)) (.cons (.ext (shIsi "InvalidNumber") (semIsX isxG (tbx [6])) (.cons (.var 0) .nil)) (.cons (.ext (shIsi "InvalidName") (semIsX isxG (tbx [7])) (.cons (.var 0) .nil)) .nil)))))) (.cons (.set 1 (.bin .Add addD (.var 1) (.fr (.dsp (.cons (.ext (shIsi "InvalidIndex") (semIsX isxG (tbx [8])) (.cons (.var 0) .nil)) (.cons (.ext (shIsi "InvalidClaim") (semIsX isxG (tbx [9])) (.cons (.var 0) .nil)) (.cons (.ext (shIsi "InvalidRow") (semIsX isxG (tbx [10])) (.cons (.var 0) .nil)) .nil))))))) (.cons (.set 1 (.bin .Add addD (.var 1) (.fr (.dsp (.cons (.ext (shIsi "InvalidRanking") (semIsX isxG (tbx [11])) (.cons (.var 0) .nil)) (.cons (.ext (shIsi "InvalidRule") (semIsX isxG (tbx [12])) (.cons (.var 0) .nil)) (.cons (.ext (shIsi "UnknownName") (semIsX isxG (tbx [13])) (.cons (.var 0) .nil)) .nil))))))) (.cons (.set 1 (.bin .Add addD (.var 1) (.fr (.dsp (.cons (.ext (shIsi "NotABook") (semIsX isxG (tbx [14])) (.cons (.var 0) .nil)) (.cons (.ext (shIsi "NotACase") (semIsX isxG (tbx [15])) (.cons (.var 0) .nil)) (.cons (.ext (shIsi "NotACourt") (semIsX isxG (tbx [16])) (.cons (.var 0) .nil)) .nil))))))) (.cons (.set 1 (.bin .Add addD (.var 1) (.fr (.dsp (.cons (.ext (shIsi "InvalidLot") (semIsX isxG (tbx [17])) (.cons (.var 0) .nil)) (.cons (.ext (shIsi "InvalidOffers") (semIsX isxG (tbx [18])) (.cons (.var 0) .nil)) (.cons (.ext (shIsi "InvalidCases") (semIsX isxG (tbx [19])) (.cons (.var 0) .nil)) .nil))))))) (.cons (.set 1 (.bin .Add addD (.var 1) (.fr (.dsp (.cons (.ext (shIsi "NoRanking") (semIsX isxG (tbx [20])) (.cons (.var 0) .nil)) (.cons (.ext (shIsi "TooMany") (semIsX isxG (tbx [21])) (.cons (.var 0) .nil)) (.cons (.ext (shIsi "Broken") (semIsX isxG (tbx [22])) (.cons (.var 0) .nil)) .nil))))))) (.cons (.ret (.bin .Add addD (.var 1) (.fr (.dsp (.cons (.ext (shIsi "InUse") (semIsX isxG (tbx [23])) (.cons (.var 0) .nil)) (.cons (.ext (shIsi "NothingToUndo") (semIsX isxG (tbx [24])) (.cons (.var 0) .nil)) .nil)))))) .nil)))))))
def m_law_flags_k1 : Fn := fnD 2 ir_law_flags_k1
def ir_law_firsts : Ss := (.cons (.set 1 (.fr (.dsp (.cons (.tup (.cons (.ext (shXd1 false "InvalidText" "given") (semXd1 5 0) (.cons (.var 0) .nil)) (.cons (.ext (shXd1 true "InvalidText" "given") (semXd1 5 0) (.cons (.var 0) .nil)) .nil))) (.cons (.tup (.cons (.ext (shXd1 false "InvalidNumber" "given") (semXd1 6 0) (.cons (.var 0) .nil)) (.cons (.ext (shXd1 true "InvalidNumber" "given") (semXd1 6 0) (.cons (.var 0) .nil)) .nil))) .nil))))) (.cons (.set 1 (.bin .Add addD (.var 1) (.fr (.dsp (.cons (.tup (.cons (.ext (shXd1 false "InvalidName" "given") (semXd1 7 0) (.cons (.var 0) .nil)) (.cons (.ext (shXd1 true "InvalidName" "given") (semXd1 7 0) (.cons (.var 0) .nil)) .nil))) (.cons (.tup (.cons (.ext (shXd1 false "InvalidIndex" "given") (semXd1 8 0) (.cons (.var 0) .nil)) (.cons (.ext (shXd1 true "InvalidIndex" "given") (semXd1 8 0) (.cons (.var 0) .nil)) .nil))) .nil)))))) (.cons (.set 1 (.bin .Add addD (.var 1) (.fr (.dsp (.cons (.tup (.cons (.ext (shXd1 false "InvalidClaim" "given") (semXd1 9 0) (.cons (.var 0) .nil)) (.cons (.ext (shXd1 true "InvalidClaim" "given") (semXd1 9 0) (.cons (.var 0) .nil)) .nil))) (.cons (.tup (.cons (.ext (shXd1 false "InvalidRow" "given") (semXd1 10 0) (.cons (.var 0) .nil)) (.cons (.ext (shXd1 true "InvalidRow" "given") (semXd1 10 0) (.cons (.var 0) .nil)) .nil))) .nil)))))) (.cons (.set 1 (.bin .Add addD (.var 1) (.fr (.dsp (.cons (.tup (.cons (.ext (shXd1 false "InvalidRanking" "given") (semXd1 11 0) (.cons (.var 0) .nil)) (.cons (.ext (shXd1 true "InvalidRanking" "given") (semXd1 11 0) (.cons (.var 0) .nil)) .nil))) (.cons (.tup (.cons (.ext (shXd1 false "InvalidRule" "given") (semXd1 12 0) (.cons (.var 0) .nil)) (.cons (.ext (shXd1 true "InvalidRule" "given") (semXd1 12 0) (.cons (.var 0) .nil)) .nil))) .nil)))))) (.cons (.set 1 (.bin .Add addD (.var 1) (.fr (.dsp (.cons (.tup (.cons (.ext (shXd1 false "UnknownName" "given") (semXd1 13 0) (.cons (.var 0) .nil)) (.cons (.ext (shXd1 true "UnknownName" "given") (semXd1 13 0) (.cons (.var 0) .nil)) .nil))) (.cons (.tup (.cons (.ext (shXd1 false "NotABook" "given") (semXd1 14 0) (.cons (.var 0) .nil)) (.cons (.ext (shXd1 true "NotABook" "given") (semXd1 14 0) (.cons (.var 0) .nil)) .nil))) .nil)))))) (.cons (.set 1 (.bin .Add addD (.var 1) (.fr (.dsp (.cons (.tup (.cons (.ext (shXd1 false "NotACase" "given") (semXd1 15 0) (.cons (.var 0) .nil)) (.cons (.ext (shXd1 true "NotACase" "given") (semXd1 15 0) (.cons (.var 0) .nil)) .nil))) (.cons (.tup (.cons (.ext (shXd1 false "NotACourt" "given") (semXd1 16 0) (.cons (.var 0) .nil)) (.cons (.ext (shXd1 true "NotACourt" "given") (semXd1 16 0) (.cons (.var 0) .nil)) .nil))) .nil)))))) (.cons (.set 1 (.bin .Add addD (.var 1) (.fr (.dsp (.cons (.tup (.cons (.ext (shXd1 false "InvalidLot" "index") (semXd1 17 1) (.cons (.var 0) .nil)) (.cons (.ext (shXd1 true "InvalidLot" "index") (semXd1 17 1) (.cons (.var 0) .nil)) .nil))) (.cons (.tup (.cons (.ext (shXd1 false "InvalidOffers" "index") (semXd1 18 1) (.cons (.var 0) .nil)) (.cons (.ext (shXd1 true "InvalidOffers" "index") (semXd1 18 1) (.cons (.var 0) .nil)) .nil))) .nil)))))) (.cons (.ret (.bin .Add addD (.var 1) (.fr (.dsp (.cons (.tup (.cons (.ext (shXd1 false "InvalidCases" "index") (semXd1 19 1) (.cons (.var 0) .nil)) (.cons (.ext (shXd1 true "InvalidCases" "index") (semXd1 19 1) (.cons (.var 0) .nil)) .nil))) .nil))))) .nil))))))))
def m_law_firsts : Fn := fnD 2 ir_law_firsts
def ir_law_seconds : Ss := (.cons (.set 1 (.fr (.dsp (.cons (.tup (.cons (.ext (shXd0 "NoRanking") (semXd0 20) .nil) (.cons (.ext (shXd0 "NoRanking") (semXd0 20) .nil) .nil))) (.cons (.tup (.cons (.ext (shXd1 false "TooMany" "number") (semXd1 21 2) (.cons (.var 0) .nil)) (.cons (.ext (shXd1 true "TooMany" "number") (semXd1 21 2) (.cons (.var 0) .nil)) .nil))) (.cons (.tup (.cons (.ext (shXd2 false "Broken") (semXd2 false 22 1 3) (.cons (.var 0) (.cons (.cst (.int 1)) .nil))) (.cons (.ext (shXd2 true "Broken") (semXd2 true 22 1 3) (.cons (.cst (.int 1)) (.cons (.var 0) .nil))) .nil))) .nil)))))) (.cons (.ret (.bin .Add addD (.var 1) (.fr (.dsp (.cons (.tup (.cons (.ext (shXd1 false "InUse" "index") (semXd1 23 1) (.cons (.var 0) .nil)) (.cons (.ext (shXd1 true "InUse" "index") (semXd1 23 1) (.cons (.var 0) .nil)) .nil))) (.cons (.tup (.cons (.ext (shXd0 "NothingToUndo") (semXd0 24) .nil) (.cons (.ext (shXd0 "NothingToUndo") (semXd0 24) .nil) .nil))) .nil)))))) .nil))
def m_law_seconds : Fn := fnD 2 ir_law_seconds
def law_right_b0 : Ss := (.cons (.par 8 9 (.v (.call "_law_flags" 1 m_law_flags_k1 (.cons (.var 7) .nil))) (.v (.cmp .Lt ltD (.var 5) (.cst (.int 15))))) (.cons (.ife (.boo false (.cons (.cmp .NotEq neD (.mth "list" "count" (m1 lcountD) (.var 8) (.cons (.cst (.bl true)) .nil)) (.cst (.int 1))) (.cons (.not (.idx ixD (.var 8) (.var 5))) .nil))) (.cons (.ret (.cst (.bl false))) .nil) .nil) (.cons (.ife (.cmp .NotEq neD (.fr (.dsp (.cons (.ext (shIsi "WrongValue") (semIsX isxG (tbx [3, 5, 6, 7, 8, 9, 10, 11, 12, 13, 14, 15, 16, 17, 18, 19])) (.cons (.var 7) .nil)) (.cons (.ext (shIsi "NoAnswer") (semIsX isxG (tbx [4, 20, 21, 22, 23, 24])) (.cons (.var 7) .nil)) .nil)))) (.fr (.dsp (.cons (.var 9) (.cons (.not (.var 9)) .nil))))) (.cons (.ret (.cst (.bl false))) .nil) .nil) (.cons (.ife (.cmp .NotEq neD (.fr (.dsp (.cons (.ext (shIsi "ValueError") (semIsX isxG (tbx [3, 5, 6, 7, 8, 9, 10, 11, 12, 13, 14, 15, 16, 17, 18, 19])) (.cons (.var 7) .nil)) (.cons (.ext (shIsi "ArithmeticError") (semIsX isxG (tbx [4, 20, 21, 22, 23, 24])) (.cons (.var 7) .nil)) .nil)))) (.fr (.dsp (.cons (.var 9) (.cons (.not (.var 9)) .nil))))) (.cons (.ret (.cst (.bl false))) .nil) .nil) .nil))))
def law_right_b1 : Ss := (.cons (.fors (.ex (.var 6)) (.nm 7) law_right_b0) .nil)
def law_right_c0 : FE := .comp (.ex (.idx ixD (.var 4) (.cst (.int 2)))) (.nm 7) .no (.ext (shFld "told") (semXfld isxG 3) (.cons (.var 7) .nil)) [("_law_e", 7)]
def law_right_c1 : FE := .comp (.ex (.idx ixD (.var 4) (.cst (.int 1)))) (.nm 7) .no (.ext (shFld "number") (semXfld isxG 2) (.cons (.var 7) .nil)) [("_law_e", 7)]
def law_right_c2 : FE := .comp (.ex (.bin .Add addD (.slc slD (.var 3) (.yes (.cst (.int 12))) .no) (.slc slD (.var 4) (.yes (.cst (.int 2))) (.yes (.cst (.int 4)))))) (.nm 6) .no (.fr (.dsp (.cons (.ext (shFld "index") (semXfld isxG 1) (.cons (.idx ixD (.var 6) (.cst (.int 0))) .nil)) (.cons (.ext (shFld "index") (semXfld isxG 1) (.cons (.idx ixD (.var 6) (.cst (.int 1))) .nil)) .nil)))) [("_law_both", 6)]
def law_right_c3 : FE := .comp (.ex (.slc slD (.var 3) .no (.yes (.cst (.int 12))))) (.nm 6) .no (.fr (.dsp (.cons (.ext (shFld "given") (semXfld isxG 0) (.cons (.idx ixD (.var 6) (.cst (.int 0))) .nil)) (.cons (.ext (shFld "given") (semXfld isxG 0) (.cons (.idx ixD (.var 6) (.cst (.int 1))) .nil)) .nil)))) [("_law_both", 6)]
def ir_law_right : Ss := (.cons (.set 1 (.call "_law_thing" 1 m_law_thing_v1 (.cons (.var 0) .nil))) (.cons (.par 3 4 (.v (.call "_law_firsts" 1 m_law_firsts (.cons (.var 1) .nil))) (.v (.call "_law_seconds" 1 m_law_seconds (.cons (.var 1) .nil)))) (.cons (.setC 2 law_right_c3) (.cons (.set 2 (.bin .Add addD (.var 2) (.fr law_right_c2))) (.cons (.set 2 (.bin .Add addD (.var 2) (.fr (.dsp (.cons (.fr law_right_c1) .nil))))) (.cons (.ife (.boo false (.cons (.cmp .NotEq neD (.bc "repr" (f1 reprYL) (.cons (.var 2) .nil)) (.bc "repr" (f1 reprYL) (.cons (.bin .Mult mulD (.fr (.dsp (.cons (.fr (.dsp (.cons (.var 1) (.cons (.var 1) .nil)))) .nil))) (.cst (.int 18))) .nil))) (.cons (.cmp .NotEq neD (.fr law_right_c0) (.fr (.dsp (.cons (.cst (.int 1)) (.cons (.cst (.int 1)) .nil))))) .nil))) (.cons (.ret (.cst (.bl false))) .nil) .nil) (.cons (.fors (.ext shEnum semEnum (.cons (.bin .Add addD (.var 3) (.var 4)) .nil)) (.tp (.cons (.nm 5) (.cons (.nm 6) .nil))) law_right_b1) (.cons (.ret (.cst (.bl true))) .nil))))))))
def m_law_right : Fn := fnD 10 ir_law_right
def law_c0 : FE := .comp (.rg1 (.bc "max" (f2 max2D) (.cons (.cst (.int 2)) (.cons (.bc "min" (f2 min2D) (.cons (.bc "len" (f1 lenD) (.cons (.var 0) .nil)) (.cons (.cst (.int 4)) .nil))) .nil)))) (.nm 2) .no (.call "_law_right" 1 m_law_right (.cons (.call "_law_purse" 2 m_law_purse (.cons (.var 0) (.cons (.var 2) .nil))) .nil)) [("_law_spot", 2)]
def ir_law : Ss := (.cons (.set 1 (.fr (.dsp (.cons (.glo "MOST_RULES" (.int 8)) (.cons (.glo "MOST_ROWS" (.int 20)) (.cons (.glo "MOST_CANDIDATES" (.int 8)) (.cons (.glo "MOST_MARKS" (.int 99)) (.cons (.glo "MOST_STRUCK" (.int 10)) (.cons (.glo "MOST_OFFERS" (.int 8)) (.cons (.glo "MOST_CASES" (.int 4)) .nil)))))))))) (.cons (.ife (.cmp .NotEq neD (.var 1) (.fr (.dsp (.cons (.cst (.int 8)) (.cons (.cst (.int 20)) (.cons (.cst (.int 8)) (.cons (.cst (.int 99)) (.cons (.cst (.int 10)) (.cons (.cst (.int 8)) (.cons (.cst (.int 4)) .nil)))))))))) (.cons (.ret (.cst (.bl false))) .nil) .nil) (.cons (.ret (.bc "all" (f1 allD) (.cons (.fr law_c0) .nil))) .nil)))
def m_law : Fn := fnD 3 ir_law
end KK
set_option Elab.async false
set_option linter.all false
set_option maxRecDepth 100000
set_option maxHeartbeats 4000000
namespace DE
open PySem
end DE
set_option Elab.async false
set_option linter.all false
set_option maxRecDepth 100000
set_option maxHeartbeats 1000000
namespace DE
open PySem
def brDV (i : Nat) (z : Z) : Option (Option DV) → Option (D × Z)
  | some (some (.imm d)) => some (d, z)
  | some (some _) => some (.bor i, z)
  | _ => none
theorem A_var {i : Nat} {z : Z} : evE (.var i) z = brDV i z z.1[i]? := rfl
theorem br_imm {i : Nat} {z : Z} {d : D} : brDV i z (some (some (.imm d))) = some (d, z) := rfl
theorem br_own {i : Nat} {z : Z} {d : List D} : brDV i z (some (some (.own d))) = some (.bor i, z) := rfl
theorem br_brw {i : Nat} {z : Z} {d : List D} : brDV i z (some (some (.brw d))) = some (.bor i, z) := rfl
theorem A_cst {d : D} {z : Z} : evE (.cst d) z = some (d, z) := rfl
theorem A_glo {x : Str} {d : D} {z : Z} : evE (.glo x d) z = some (d, z) := rfl
def kRd2 (f : D → D → Option D) (z : Z) (x y : D) : Option (D × Z) := (f x y).map fun d => (d, z)
def kRd (f : D → D → Option D) (z : Z) (y x : D) : Option (D × Z) := (rd z y).bind (kRd2 f z x)
def bin2 (f : D → D → Option D) (z : Z) (x y : D) : Option (D × Z) := (rd z x).bind (kRd f z y)
def kBin2 (f : D → D → Option D) (x : D) (y : D × Z) : Option (D × Z) := bin2 f y.2 x y.1
def kBin (f : D → D → Option D) (b : E) (x : D × Z) : Option (D × Z) := (evE b x.2).bind (kBin2 f x.1)
theorem A_bin {o : Operator} {f : D → D → Option D} {a b : E} {z : Z} : evE (.bin o f a b) z = (evE a z).bind (kBin f b) := rfl
theorem A_cmp {o : CmpOp} {f : D → D → Option D} {a b : E} {z : Z} : evE (.cmp o f a b) z = (evE a z).bind (kBin f b) := rfl
theorem A_idx {f : D → D → Option D} {a b : E} {z : Z} : evE (.idx f a b) z = (evE a z).bind (kBin f b) := rfl
def chn2 (f : D → D → Option D) (c : E) (z : Z) (y : D) : D → Option (D × Z)
  | .bl true => (evE c z).bind (kBin2 f y)
  | .bl false => some (.bl false, z)
  | _ => none
def kChn4 (f f' : D → D → Option D) (c : E) (y : D × Z) (x' y' : D) : Option (D × Z) := (f x' y').bind (chn2 f' c y.2 y.1)
def kChn3 (f f' : D → D → Option D) (c : E) (y : D × Z) (x' : D) : Option (D × Z) := (rd y.2 y.1).bind (kChn4 f f' c y x')
def kChn2 (f f' : D → D → Option D) (c : E) (x : D) (y : D × Z) : Option (D × Z) := (rd y.2 x).bind (kChn3 f f' c y)
def kChn (f f' : D → D → Option D) (b c : E) (x : D × Z) : Option (D × Z) := (evE b x.2).bind (kChn2 f f' c x.1)
theorem A_chn {o o' : CmpOp} {f f' : D → D → Option D} {a b c : E} {z : Z} : evE (.chn o o' f f' a b c) z = (evE a z).bind (kChn f f' b c) := rfl
theorem chn_if {f : D → D → Option D} {c : E} {z : Z} {y : D} {b : Bool} : chn2 f c z y (.bl b) = if b then (evE c z).bind (kBin2 f y) else some (.bl false, z) := by cases b <;> rfl
def kUn2 (f : D → Option D) (z : Z) (x : D) : Option (D × Z) := (f x).map fun d => (d, z)
def kUn (f : D → Option D) (x : D × Z) : Option (D × Z) := (rd x.2 x.1).bind (kUn2 f x.2)
theorem A_un {o : UnaryOp} {f : D → Option D} {a : E} {z : Z} : evE (.un o f a) z = (evE a z).bind (kUn f) := rfl
def asB (z : Z) : D → Option (Bool × Z)
  | .bl b => some (b, z)
  | _ => none
theorem asB_bl {z : Z} {b : Bool} : asB z (.bl b) = some (b, z) := rfl
def andB (f : Ev) (z : Z) : D → Option (D × Z)
  | .bl true => f z
  | .bl false => some (.bl false, z)
  | _ => none
theorem and_if {f : Ev} {z : Z} {b : Bool} : andB f z (.bl b) = if b then f z else some (.bl false, z) := by cases b <;> rfl
def orB (f : Ev) (z : Z) : D → Option (D × Z)
  | .bl true => some (.bl true, z)
  | .bl false => f z
  | _ => none
theorem or_if {f : Ev} {z : Z} {b : Bool} : orB f z (.bl b) = if b then some (.bl true, z) else f z := by cases b <;> rfl
theorem A_boo {c : Bool} {es : Es} {z : Z} : evE (.boo c es) z = evB c es z := by unfold evE; rfl
theorem A_b1 {c : Bool} {e : E} {z : Z} : evB c (.cons e .nil) z = evE e z := by cases c <;> simp [evB]
def kAnd (es : Es) (x : D × Z) : Option (D × Z) := andB (evB true es) x.2 x.1
def kOr (es : Es) (x : D × Z) : Option (D × Z) := orB (evB false es) x.2 x.1
theorem A_and {e e2 : E} {es : Es} {z : Z} : evB true (.cons e (.cons e2 es)) z = (evE e z).bind (kAnd (.cons e2 es)) := rfl
theorem A_or {e e2 : E} {es : Es} {z : Z} : evB false (.cons e (.cons e2 es)) z = (evE e z).bind (kOr (.cons e2 es)) := rfl
def notB (z : Z) : D → Option (D × Z)
  | .bl b => some (.bl (!b), z)
  | _ => none
theorem notB_bl {z : Z} {b : Bool} : notB z (.bl b) = some (.bl (!b), z) := rfl
def kNot (x : D × Z) : Option (D × Z) := notB x.2 x.1
theorem A_not {a : E} {z : Z} : evE (.not a) z = (evE a z).bind kNot := rfl
def kIfe (a b : E) (x : Bool × Z) : Option (D × Z) := if x.1 then evE a x.2 else evE b x.2
theorem A_ife {t a b : E} {z : Z} : evE (.ife t a b) z = (evT t z).bind (kIfe a b) := rfl
def tupB (x : List D × Z) : Option (D × Z) := if x.1.all D.plain && okLen x.1 then some (.tup x.1, x.2) else none
theorem A_tup {es : Es} {z : Z} : evE (.tup es) z = (evEs es z).bind tupB := rfl
def kEsc (x : D × Z) : Option (D × Z) := escD x.1 x.2
theorem A_esc {a : E} {z : Z} : evE (.esc a) z = (evE a z).bind kEsc := rfl
theorem A_call {x : Str} {n : Nat} {g : Fn} {es : Es} {z : Z} : evE (.call x n g es) z = (evEs es z).bind (callB n g) := rfl
theorem A_bt {x : Str} {f : List D → Option D} {es : Es} {z : Z} : evE (.bt x f es) z = (evEs es z).bind (bcB f) := rfl
def kBl (f : List D → Option (List D)) (z : Z) (ds : List D) : Option (List D × Z) := (f ds).map fun d => (d, z)
def blB (f : List D → Option (List D)) (x : List D × Z) : Option (List D × Z) := (rdAll x.2 x.1).bind (kBl f x.2)
def kMth4 (f : D → List D → Option D) (z : Z) (x : D) (ds : List D) : Option (D × Z) := (f x ds).map fun d => (d, z)
def kMth3 (f : D → List D → Option D) (y : List D × Z) (x : D) : Option (D × Z) := (rdAll y.2 y.1).bind (kMth4 f y.2 x)
def kMth2 (f : D → List D → Option D) (x : D) (y : List D × Z) : Option (D × Z) := (rd y.2 x).bind (kMth3 f y)
def kMth1 (T : String) (f : D → List D → Option D) (es : Es) (x : D × Z) (x0 : D) : Option (D × Z) := if tyD T x0 then (evEs es x.2).bind (kMth2 f x.1) else none
def kMth (T : String) (f : D → List D → Option D) (es : Es) (x : D × Z) : Option (D × Z) := (rd x.2 x.1).bind (kMth1 T f es x)
theorem A_mth {T : String} {m : Str} {f : D → List D → Option D} {a : E} {es : Es} {z : Z} : evE (.mth T m f a es) z = (evE a z).bind (kMth T f es) := rfl
def kOwn3 (i : Nat) (z : Z) (r : D × List D) : Option (D × Z) := if okLen r.2 then some (r.1, (z.1.set i (some (.own r.2)), z.2)) else none
def kOwn2 (i : Nat) (f : List D → List D → Option (D × List D)) (ds : List D) (z : Z) (as : List D) : Option (D × Z) := (f ds as).bind (kOwn3 i z)
def ownB2 (i : Nat) (f : List D → List D → Option (D × List D)) (y : List D × Z) : Option (Option DV) → Option (D × Z)
  | some (some (.own ds)) => (rdAll y.2 y.1).bind (kOwn2 i f ds y.2)
  | _ => none
def kOwn (i : Nat) (f : List D → List D → Option (D × List D)) (y : List D × Z) : Option (D × Z) := ownB2 i f y y.2.1[i]?
def ownB (i : Nat) (f : List D → List D → Option (D × List D)) (es : Es) (z : Z) : Option (Option DV) → Option (D × Z)
  | some (some (.own _)) => (evEs es z).bind (kOwn i f)
  | _ => none
theorem A_own {i : Nat} {m : Str} {f : List D → List D → Option (D × List D)} {es : Es} {z : Z} : evE (.own i m f es) z = ownB i f es z z.1[i]? := rfl
theorem own_own {i : Nat} {f : List D → List D → Option (D × List D)} {es : Es} {z : Z} {l : List D} : ownB i f es z (some (some (.own l))) = (evEs es z).bind (kOwn i f) := rfl
theorem own2_own {i : Nat} {f : List D → List D → Option (D × List D)} {y : List D × Z} {ds : List D} : ownB2 i f y (some (some (.own ds))) = (rdAll y.2 y.1).bind (kOwn2 i f ds y.2) := rfl
def appB2 (i : Nat) (z : Z) : Option (Option DV) → List D → Option (D × Z)
  | some (some (.own ds)), [d] => if d.plain && Nat.blt ds.length 16777216 then some (.non, (z.1.set i (some (.own (ds ++ [d]))), z.2)) else none
  | _, _ => none
def kApp (i : Nat) (y : List D × Z) : Option (D × Z) := appB2 i y.2 y.2.1[i]? y.1
def appB (i : Nat) (es : Es) (z : Z) : Option (Option DV) → Option (D × Z)
  | some (some (.own _)) => (evEs es z).bind (kApp i)
  | _ => none
theorem A_app {i : Nat} {es : Es} {z : Z} : evE (.app i es) z = appB i es z z.1[i]? := rfl
theorem app_own {i : Nat} {es : Es} {z : Z} {l : List D} : appB i es z (some (some (.own l))) = (evEs es z).bind (kApp i) := rfl
theorem app2_own {i : Nat} {z : Z} {ds : List D} {d : D} : appB2 i z (some (some (.own ds))) [d] = if d.plain && Nat.blt ds.length 16777216 then some (.non, (z.1.set i (some (.own (ds ++ [d]))), z.2)) else none := rfl
def kSl4 (f : D → Option Int → Option Int → Option D) (l : Option Int) (u : Option Int × Z) (x : D) : Option (D × Z) := (f x l u.1).map fun d => (d, u.2)
def kSl3 (f : D → Option Int → Option Int → Option D) (x : D) (l : Option Int) (u : Option Int × Z) : Option (D × Z) := (rd u.2 x).bind (kSl4 f l u)
def kSl2 (f : D → Option Int → Option Int → Option D) (hi : Oe) (x : D) (l : Option Int × Z) : Option (D × Z) := (evO hi l.2).bind (kSl3 f x l.1)
def kSl (f : D → Option Int → Option Int → Option D) (lo hi : Oe) (x : D × Z) : Option (D × Z) := (evO lo x.2).bind (kSl2 f hi x.1)
theorem A_slc {f : D → Option Int → Option Int → Option D} {a : E} {lo hi : Oe} {z : Z} : evE (.slc f a lo hi) z = (evE a z).bind (kSl f lo hi) := rfl
theorem A_ono {z : Z} : evO .no z = some (none, z) := rfl
def partB (z : Z) : D → Option (Option Int × Z)
  | .int i => some (some i, z)
  | _ => none
theorem part_int {z : Z} {i : Int} : partB z (.int i) = some (some i, z) := rfl
def kPart (x : D × Z) : Option (Option Int × Z) := partB x.2 x.1
theorem A_oyes {e : E} {z : Z} : evO (.yes e) z = (evE e z).bind kPart := rfl
theorem A_cel {f : FE} {z : Z} : evE (.cel f) z = (evF f z).map fun x => (.han x.2.2.length, (x.2.1, x.2.2 ++ [.lst x.1])) := rfl
theorem A_ext {sh : Scope → Expr → Option (List Expr)} {sem : List Ev → Ev} {es : Es} {z : Z} : evE (.ext sh sem es) z = sem (evL es) z := rfl
theorem A_lnil : evL .nil = [] := rfl
theorem A_lcons {e : E} {es : Es} : evL (.cons e es) = evE e :: evL es := rfl
def kAs (x : D × Z) : Option (Bool × Z) := asB x.2 x.1
def kTand (es : Es) (x : Bool × Z) : Option (Bool × Z) := if x.1 then evBT true es x.2 else some (false, x.2)
def kTor (es : Es) (x : Bool × Z) : Option (Bool × Z) := if x.1 then some (true, x.2) else evBT false es x.2
theorem T_boo {c : Bool} {es : Es} {z : Z} : evT (.boo c es) z = evBT c es z := by unfold evT; rfl
theorem T_b1 {c : Bool} {e : E} {z : Z} : evBT c (.cons e .nil) z = evT e z := by cases c <;> simp [evBT]
theorem T_and {e e2 : E} {es : Es} {z : Z} : evBT true (.cons e (.cons e2 es)) z = (evT e z).bind (kTand (.cons e2 es)) := rfl
theorem T_or {e e2 : E} {es : Es} {z : Z} : evBT false (.cons e (.cons e2 es)) z = (evT e z).bind (kTor (.cons e2 es)) := rfl
theorem T_not {a : E} {z : Z} : evT (.not a) z = (evT a z).map fun x => (!x.1, x.2) := rfl
theorem T_var {i : Nat} {z : Z} : evT (.var i) z = (evE (.var i) z).bind kAs := rfl
theorem T_cst {d : D} {z : Z} : evT (.cst d) z = asB z d := rfl
theorem T_glo {x : Str} {d : D} {z : Z} : evT (.glo x d) z = asB z d := rfl
theorem T_bin {o : Operator} {f : D → D → Option D} {a b : E} {z : Z} : evT (.bin o f a b) z = (evE (.bin o f a b) z).bind kAs := rfl
theorem T_cmp {o : CmpOp} {f : D → D → Option D} {a b : E} {z : Z} : evT (.cmp o f a b) z = (evE (.cmp o f a b) z).bind kAs := rfl
theorem T_idx {f : D → D → Option D} {a b : E} {z : Z} : evT (.idx f a b) z = (evE (.idx f a b) z).bind kAs := rfl
theorem T_chn {o o' : CmpOp} {f f' : D → D → Option D} {a b c : E} {z : Z} : evT (.chn o o' f f' a b c) z = (evE (.chn o o' f f' a b c) z).bind kAs := rfl
theorem T_call {x : Str} {n : Nat} {g : Fn} {es : Es} {z : Z} : evT (.call x n g es) z = (evE (.call x n g es) z).bind kAs := rfl
theorem T_bc {x : Str} {f : List D → Option D} {es : Es} {z : Z} : evT (.bc x f es) z = (evE (.bc x f es) z).bind kAs := rfl
theorem T_bt {x : Str} {f : List D → Option D} {es : Es} {z : Z} : evT (.bt x f es) z = (evE (.bt x f es) z).bind kAs := rfl
theorem T_mth {T : String} {m : Str} {f : D → List D → Option D} {a : E} {es : Es} {z : Z} : evT (.mth T m f a es) z = (evE (.mth T m f a es) z).bind kAs := rfl
theorem T_ext {sh : Scope → Expr → Option (List Expr)} {sem : List Ev → Ev} {es : Es} {z : Z} : evT (.ext sh sem es) z = (sem (evL es) z).bind kAs := rfl
def kStar2 (es : Es) (z : Z) (ds : List D) : Option (List D × Z) := (evEs es z).map fun y => (ds ++ y.1, y.2)
def kStar1 (es : Es) (z : Z) (d : D) : Option (List D × Z) := (itemsOf d).bind (kStar2 es z)
def kStar (es : Es) (x : D × Z) : Option (List D × Z) := (rd x.2 x.1).bind (kStar1 es x.2)
theorem A_nil {z : Z} : evEs .nil z = some ([], z) := rfl
theorem A_star {e : E} {es : Es} {z : Z} : evEs (.star e es) z = (evE e z).bind (kStar es) := rfl
theorem F_bl {x : Str} {f : List D → Option (List D)} {es : Es} {z : Z} : evF (.bl x f es) z = (evEs es z).bind (blB f) := rfl
theorem F_blt {x : Str} {f : List D → Option (List D)} {es : Es} {z : Z} : evF (.blt x f es) z = (evEs es z).bind (blB f) := rfl
theorem F_ext {sh : Scope → Expr → Option (List Expr)} {sem : List Ev → EvA} {es : Es} {z : Z} : evF (.ext sh sem es) z = sem (evL es) z := rfl
theorem OT_no {z : Z} : evOT .no z = some (true, z) := rfl
theorem OT_yes {e : E} {z : Z} : evOT (.yes e) z = evT e z := rfl
def kEx (x : D × Z) : Option (List D × Z) := (itD x.1).map fun ds => (ds, x.2)
theorem I_ex {e : E} {z : Z} : evI (.ex e) z = (evE e z).bind kEx := rfl
def rg1B (z : Z) : D → Option (List D × Z)
  | .int j => if bigOk j then some (rngL 0 j.toNat, z) else none
  | _ => none
theorem rg1_int {z : Z} {j : Int} : rg1B z (.int j) = if bigOk j then some (rngL 0 j.toNat, z) else none := rfl
def kRg1 (x : D × Z) : Option (List D × Z) := rg1B x.2 x.1
theorem I_rg1 {e : E} {z : Z} : evI (.rg1 e) z = (evE e z).bind kRg1 := by
  show ((((evE e z).bind fun x => (fNil x.2).map fun y => (x.1 :: y.1, y.2))).bind _) = _
  cases evE e z with
  | none => rfl
  | some x => obtain ⟨d, z'⟩ := x; cases d <;> rfl
def rg2B (z : Z) : D → D → Option (List D × Z)
  | .int i, .int j => if bigOk i && bigOk j then some (rngL i (j - i).toNat, z) else none
  | _, _ => none
theorem rg2_int {z : Z} {i j : Int} : rg2B z (.int i) (.int j) = if bigOk i && bigOk j then some (rngL i (j - i).toNat, z) else none := rfl
def kRg22 (x : D) (y : D × Z) : Option (List D × Z) := rg2B y.2 x y.1
def kRg2 (b : E) (x : D × Z) : Option (List D × Z) := (evE b x.2).bind (kRg22 x.1)
theorem I_rg2 {a b : E} {z : Z} : evI (.rg2 a b) z = (evE a z).bind (kRg2 b) := by
  show ((((evE a z).bind fun x => (fCons (evE b) fNil x.2).map fun y => (x.1 :: y.1, y.2))).bind _) = _
  cases evE a z with
  | none => rfl
  | some x =>
    obtain ⟨d, z'⟩ := x
    show ((((evE b z').bind fun x => (fNil x.2).map fun y => (x.1 :: y.1, y.2)).map _).bind _) = (evE b z').bind _
    cases evE b z' with
    | none => rfl
    | some y => obtain ⟨d', z2⟩ := y; cases d <;> cases d' <;> rfl
def zipB (z : Z) : D → D → Option (List D × Z)
  | .lst ds, .lst es => some (zipT ds es, z)
  | .tup ds, .tup es => some (zipT ds es, z)
  | _, _ => none
theorem zip_l {z : Z} {a b : List D} : zipB z (.lst a) (.lst b) = some (zipT a b, z) := rfl
theorem zip_t {z : Z} {a b : List D} : zipB z (.tup a) (.tup b) = some (zipT a b, z) := rfl
def kZip2 (x : D) (y : D × Z) : Option (List D × Z) := zipB y.2 x y.1
def kZip (b : E) (x : D × Z) : Option (List D × Z) := (evE b x.2).bind (kZip2 x.1)
theorem I_zip {a b : E} {z : Z} : evI (.zip a b) z = (evE a z).bind (kZip b) := by
  show ((((evE a z).bind fun x => (fCons (evE b) fNil x.2).map fun y => (x.1 :: y.1, y.2))).bind _) = _
  cases evE a z with
  | none => rfl
  | some x =>
    obtain ⟨d, z'⟩ := x
    show ((((evE b z').bind fun x => (fNil x.2).map fun y => (x.1 :: y.1, y.2)).map _).bind _) = (evE b z').bind _
    cases evE b z' with
    | none => rfl
    | some y => obtain ⟨d', z2⟩ := y; cases d <;> cases d' <;> rfl
theorem I_ext {sh : Scope → Expr → Expr → Option (List Expr)} {sem : List Ev → EvA} {es : Es} {z : Z} : evI (.ext sh sem es) z = sem (evL es) z := rfl
def kIsi2 (f : D → Option Bool) (z : Z) (d : D) : Option (D × Z) := (f d).map fun b => (.bl b, z)
def kIsi (f : D → Option Bool) (x : D × Z) : Option (D × Z) := (rd x.2 x.1).bind (kIsi2 f x.2)
theorem X_isi {f : D → Option Bool} {fa : Ev} {z : Z} : semIsi f [fa] z = (fa z).bind (kIsi f) := rfl
def kFld (k : Nat) (x : D × Z) : Option (D × Z) := (fldOf x.2 k x.1).map fun d => (d, x.2)
theorem X_fld {k : Nat} {fa : Ev} {z : Z} : semFld k [fa] z = (fa z).bind (kFld k) := rfl
def gfB (k : Nat) (d : D) (z : Z) : D → Option Z
  | .han n => (match z.2[n]? with
    | some (.ins c fs) => if Nat.blt fs.length 900 then some (z.1, z.2.set n (.ins c (putD k d fs))) else none
    | _ => none)
  | _ => none
def kGf (k : Nat) (d : D) (x : D × Z) : Option Z := gfB k d x.2 x.1
theorem X_gf {k : Nat} {fa : Ev} {d : D} {z : Z} : semGf k [fa] d z = (fa z).bind (kGf k d) := rfl
theorem X_dsub {l : SS} {fa : Ev} {z : Z} : semDsub l [fa] z = fDsub l fa z := rfl
def rgB (z : Z) : D → Option (List D × Z)
  | .int n => (rgDs n).map fun l => (l, z)
  | _ => none
def kLrg (x : D × Z) : Option (List D × Z) := rgB x.2 x.1
theorem X_lrg {fa : Ev} {z : Z} : semLrg [fa] z = (fa z).bind kLrg := rfl
def kEn (x : D × Z) : Option (List D × Z) := enB x.2 x.1
theorem X_en {fa : Ev} {z : Z} : semEnum [fa] z = (fa z).bind kEn := rfl
theorem en_lst {z : Z} {ds : List D} : enB z (.lst ds) = some (enumL ds, z) := rfl
theorem en_str {z : Z} {s : List Nat} : enB z (.str s) = some (enumL (s.map fun c => .str [c]), z) := rfl
theorem en_ftp {z : Z} {ss : List (List Nat)} : enB z (.ftp ss) = some (enumL (ss.map D.str), z) := rfl
theorem en_tup {z : Z} {ds : List D} : enB z (.tup ds) = some (enumL ds, z) := rfl
def mkB2 (n c : Nat) (ρ : Rho) : Option (D × Store) → Option (D × Z)
  | some (.non, S) => (endMk n c S).map fun r => (r.1, (ρ, r.2))
  | _ => none
def mkB (c n : Nat) (g : Fn) (x : List D × Z) : Option (D × Z) := (lendAll x.2 x.1).bind fun ds => if ds.length = n then mkB2 x.2.2.length c x.2.1 (g (.han x.2.2.length :: ds) (x.2.2 ++ [.ins c []])) else none
def kMk1 (c n : Nat) (g : Fn) (x : D × Z) : Option (D × Z) := mkB c n g ([x.1], x.2)
theorem X_mk1 {c n : Nat} {g : Fn} {fa : Ev} {z : Z} : semMk c n g [fa] z = (fa z).bind (kMk1 c n g) := by
  show (((fa z).bind fun x => (fNil x.2).map fun y => (x.1 :: y.1, y.2)).bind _) = _
  cases fa z <;> rfl
def kCk1 (n : Nat) (g : Fn) (m : Nat) (pm : List Nat) (z : Z) (ds : List D) : Option (D × Z) := if ds.length = m then (pick ds pm).bind (kCall n g z) else none
def callKB (n : Nat) (g : Fn) (m : Nat) (pm : List Nat) (x : List D × Z) : Option (D × Z) := (lendAll x.2 x.1).bind (kCk1 n g m pm x.2)
def kCk3 (n : Nat) (g : Fn) (m : Nat) (pm : List Nat) (ds : List D) (x : D × Z) : Option (D × Z) := callKB n g m pm (ds ++ [x.1], x.2)
def kCk2 (n : Nat) (g : Fn) (m : Nat) (pm : List Nat) (fs : List Ev) (ds : List D) (x : D × Z) : Option (D × Z) := match fs with
  | [] => callKB n g m pm (ds ++ [x.1], x.2)
  | f :: r => (f x.2).bind (kCk2 n g m pm r (ds ++ [x.1]))
theorem X_callK1 {n : Nat} {g : Fn} {m : Nat} {pm : List Nat} {fa : Ev} {z : Z} : semCallK n g m pm [fa] z = (fa z).bind (kCk2 n g m pm [] []) := by
  show (((fa z).bind fun x => (fNil x.2).map fun y => (x.1 :: y.1, y.2)).bind _) = _
  cases fa z <;> rfl
theorem X_callK2 {n : Nat} {g : Fn} {m : Nat} {pm : List Nat} {fa fb : Ev} {z : Z} : semCallK n g m pm [fa, fb] z = (fa z).bind (kCk2 n g m pm [fb] []) := by
  show (((fa z).bind fun x => (fCons fb fNil x.2).map fun y => (x.1 :: y.1, y.2)).bind _) = _
  cases fa z with
  | none => rfl
  | some x =>
    show ((((fb x.2).bind fun x => (fNil x.2).map fun y => (x.1 :: y.1, y.2)).map _).bind _) = (fb x.2).bind _
    cases fb x.2 <;> rfl
theorem X_callK3 {n : Nat} {g : Fn} {m : Nat} {pm : List Nat} {fa fb fc : Ev} {z : Z} : semCallK n g m pm [fa, fb, fc] z = (fa z).bind (kCk2 n g m pm [fb, fc] []) := by
  show (((fa z).bind fun x => (fCons fb (fCons fc fNil) x.2).map fun y => (x.1 :: y.1, y.2)).bind _) = _
  cases fa z with
  | none => rfl
  | some x =>
    show ((((fb x.2).bind fun x => (fCons fc fNil x.2).map fun y => (x.1 :: y.1, y.2)).map _).bind _) = (fb x.2).bind _
    cases fb x.2 with
    | none => rfl
    | some y =>
      show (((((fc y.2).bind fun x => (fNil x.2).map fun y => (x.1 :: y.1, y.2)).map _).map _).bind _) = (fc y.2).bind _
      cases fc y.2 <;> rfl
theorem seq_rt {ss : Ss} {d : D} {z : Z} : seqB ss (.rt d, z) = some (.rt d, z) := rfl
theorem seq_bk {ss : Ss} {z : Z} : seqB ss (.bk, z) = some (.bk, z) := rfl
theorem seq_ct {ss : Ss} {z : Z} : seqB ss (.ct, z) = some (.ct, z) := rfl
theorem S_nil {z : Z} : evSs .nil z = some (.nx, z) := rfl
def asgB (i : Nat) (x : D × Z) : Option (Fl × Z) := if x.1.plain then some (.nx, (x.2.1.set i (some (.imm x.1)), x.2.2)) else none
theorem S_set {i : Nat} {e : E} {z : Z} : evS (.set i e) z = (evE e z).bind (asgB i) := rfl
theorem S_setC {i : Nat} {f : FE} {z : Z} : evS (.setC i f) z = (evF f z).map fun x => (.nx, (x.2.1.set i (some (.imm (.lst x.1))), x.2.2)) := rfl
theorem S_own {i : Nat} {f : FE} {z : Z} : evS (.own i f) z = (evF f z).map fun x => (.nx, (x.2.1.set i (some (.own x.1)), x.2.2)) := rfl
theorem S_ownC {i : Nat} {f : FE} {z : Z} : evS (.ownC i f) z = (evF f z).map fun x => (.nx, (x.2.1.set i (some (.own x.1)), x.2.2)) := rfl
def kAsg (g : Gt) (x : D × Z) : Option (Fl × Z) := if x.1.plain then (evG g x.1 x.2).map fun z' => (.nx, z') else none
theorem S_asg {g : Gt} {e : E} {z : Z} : evS (.asg g e) z = (evE e z).bind (kAsg g) := rfl
def kPar (i j : Nat) (b : PEl) (x : DV × Z) : Option (Fl × Z) := (evP b x.2).map fun y => (.nx, ((y.2.1.set i (some x.1)).set j (some y.1), y.2.2))
theorem S_par {i j : Nat} {a b : PEl} {z : Z} : evS (.par i j a b) z = (evP a z).bind (kPar i j b) := rfl
def kPv (x : D × Z) : Option (DV × Z) := if x.1.plain then some (.imm x.1, x.2) else none
theorem P_v {e : E} {z : Z} : evP (.v e) z = (evE e z).bind kPv := rfl
theorem P_o {f : FE} {z : Z} : evP (.o f) z = (evF f z).map fun x => (.own x.1, x.2) := rfl
theorem S_exp {e : E} {z : Z} : evS (.exp e) z = (evE e z).map fun x => (.nx, x.2) := rfl
def kSif (a b : Ss) (x : Bool × Z) : Option (Fl × Z) := if x.1 then evSs a x.2 else evSs b x.2
theorem S_ife {t : E} {a b : Ss} {z : Z} : evS (.ife t a b) z = (evT t z).bind (kSif a b) := rfl
def kFor (g : Gt) (b : Ss) (x : List D × Z) : Option (Fl × Z) := forL (evG g) (evSs b) x.1 x.2
theorem S_fors {it : IE} {g : Gt} {b : Ss} {z : Z} : evS (.fors it g b) z = (evI it z).bind (kFor g b) := rfl
theorem S_whil {n : Nat} {t : E} {b : Ss} {z : Z} : evS (.whil n t b) z = whileL (evT t) (evSs b) n z := rfl
theorem S_pass {z : Z} : evS .pass z = some (.nx, z) := rfl
theorem S_brk {z : Z} : evS .brk z = some (.bk, z) := rfl
theorem S_cont {z : Z} : evS .cont z = some (.ct, z) := rfl
theorem G_nm {i : Nat} {d : D} {z : Z} : evG (.nm i) d z = some (z.1.set i (some (.imm d)), z.2) := rfl
def kIx2 (x d : D) (y : D × Z) : Option Z := setD x y.1 d y.2
def kIx (b : E) (d : D) (x : D × Z) : Option Z := (evE b x.2).bind (kIx2 x.1 d)
theorem G_ix {a b : E} {d : D} {z : Z} : evG (.ix a b) d z = (evE a z).bind (kIx b d) := rfl
def kTp (gs : Gts) (z : Z) (ds : List D) : Option Z := if ds.length = gs.len then evGs gs ds z else none
theorem G_tp {gs : Gts} {d : D} {z : Z} : evG (.tp gs) d z = (itemsOf d).bind (kTp gs z) := rfl
theorem G_nil {z : Z} : evGs .nil [] z = some z := rfl
theorem G_cons {g : Gt} {gs : Gts} {d : D} {ds : List D} {z : Z} : evGs (.cons g gs) (d :: ds) z = (evG g d z).bind (evGs gs ds) := rfl
theorem G_ext {sh : Scope → Expr → Option (List Expr)} {sem : List Ev → EvG} {es : Es} {d : D} {z : Z} : evG (.ext sh sem es) d z = sem (evL es) d z := rfl
def endF : Option (Fl × Z) → Option (D × Store)
  | some (.rt d, z) => some (d, z.2)
  | some (.nx, z) => some (.non, z.2)
  | _ => none
theorem fn_ap {n : Nat} {b : Ss} {ds : List D} {S : Store} : fnD n b ds S = endF (evSs b (rho0 n ds, S)) := rfl
theorem end_rt {d : D} {z : Z} : endF (some (.rt d, z)) = some (d, z.2) := rfl
theorem end_nx {z : Z} : endF (some (.nx, z)) = some (.non, z.2) := rfl
theorem okL0 : okLen [] = true := rfl
theorem okL1 {a : D} : okLen [a] = true := rfl
theorem okL2 {a b : D} : okLen [a, b] = true := rfl
theorem okL3 {a b c : D} : okLen [a, b, c] = true := rfl
theorem okL4 {a b c d : D} : okLen [a, b, c, d] = true := rfl
theorem plain_str {s : List Nat} : (D.str s).plain = true := rfl
theorem plain_int {s : Int} : (D.int s).plain = true := rfl
theorem plain_bl {s : Bool} : (D.bl s).plain = true := rfl
theorem plain_non : (D.non).plain = true := rfl
theorem plain_lst {s : List D} : (D.lst s).plain = true := rfl
theorem plain_tup {s : List D} : (D.tup s).plain = true := rfl
theorem plain_han {s : Nat} : (D.han s).plain = true := rfl
theorem plain_ins {c : Nat} {fs : List (Nat × D)} : (D.ins c fs).plain = true := rfl
theorem rd_str {z : Z} {s : List Nat} : rd z (.str s) = some (.str s) := rfl
theorem rd_int {z : Z} {s : Int} : rd z (.int s) = some (.int s) := rfl
theorem rd_bl {z : Z} {s : Bool} : rd z (.bl s) = some (.bl s) := rfl
theorem rd_non {z : Z} : rd z .non = some .non := rfl
theorem rd_lst {z : Z} {s : List D} : rd z (.lst s) = some (.lst s) := rfl
theorem rd_tup {z : Z} {s : List D} : rd z (.tup s) = some (.tup s) := rfl
theorem rd_ins {z : Z} {c : Nat} {fs : List (Nat × D)} : rd z (.ins c fs) = some (.ins c fs) := rfl
theorem rd_bor {z : Z} {i : Nat} : rd z (.bor i) = rdB z.1[i]? := rfl
theorem rd_han {z : Z} {i : Nat} : rd z (.han i) = rdH i z.2[i]? := rfl
theorem rdB_own {ds : List D} : rdB (some (some (.own ds))) = some (.lst ds) := rfl
theorem rdB_brw {ds : List D} : rdB (some (some (.brw ds))) = some (.lst ds) := rfl
theorem rdH_lst {n : Nat} {ds : List D} : rdH n (some (.lst ds)) = some (.lst ds) := rfl
theorem rdH_ins {n c : Nat} {fs : List (Nat × D)} : rdH n (some (.ins c fs)) = some (.han n) := rfl
theorem ln_str {z : Z} {s : List Nat} : lendD z (.str s) = some (.str s) := rfl
theorem ln_int {z : Z} {s : Int} : lendD z (.int s) = some (.int s) := rfl
theorem ln_bl {z : Z} {s : Bool} : lendD z (.bl s) = some (.bl s) := rfl
theorem ln_non {z : Z} : lendD z .non = some .non := rfl
theorem ln_lst {z : Z} {s : List D} : lendD z (.lst s) = some (.lst s) := rfl
theorem ln_tup {z : Z} {s : List D} : lendD z (.tup s) = some (.tup s) := rfl
theorem ln_ins {z : Z} {c : Nat} {fs : List (Nat × D)} : lendD z (.ins c fs) = some (.ins c fs) := rfl
theorem ln_han {z : Z} {i : Nat} : lendD z (.han i) = some (.han i) := rfl
theorem ln_0 {z : Z} : lendAll z [] = some [] := rfl
theorem ln_s {z : Z} {d : D} {ds : List D} : lendAll z (d :: ds) = (lendD z d).bind fun x => (lendAll z ds).map fun r => x :: r := rfl
theorem rdA_0 {z : Z} : rdAll z [] = some [] := rfl
theorem rdA_s {z : Z} {d : D} {ds : List D} : rdAll z (d :: ds) = (rd z d).bind fun x => (rdAll z ds).map fun r => x :: r := rfl
def esB (i : Nat) (z : Z) : Option (Option DV) → Option (D × Z)
  | some (some (.own ds)) => some (.lst ds, (z.1.set i (some (.imm (.lst ds))), z.2))
  | _ => none
theorem es_bor {z : Z} {i : Nat} : escD (.bor i) z = esB i z z.1[i]? := rfl
theorem es_own {z : Z} {i : Nat} {ds : List D} : esB i z (some (some (.own ds))) = some (.lst ds, (z.1.set i (some (.imm (.lst ds))), z.2)) := rfl
theorem es_lst {z : Z} {s : List D} : escD (.lst s) z = some (.lst s, z) := rfl
theorem es_tup {z : Z} {s : List D} : escD (.tup s) z = some (.tup s, z) := rfl
theorem es_str {z : Z} {s : List Nat} : escD (.str s) z = some (.str s, z) := rfl
theorem es_non {z : Z} : escD .non z = some (.non, z) := rfl
theorem it_lst {s : List D} : itD (.lst s) = some s := rfl
theorem it_tup {s : List D} : itD (.tup s) = some s := rfl
theorem it_str {s : List Nat} : itD (.str s) = some (s.map fun c => .str [c]) := rfl
theorem its_lst {s : List D} : itemsOf (.lst s) = some s := rfl
theorem its_tup {s : List D} : itemsOf (.tup s) = some s := rfl
theorem f1_1 {g : D → Option D} {x : D} : f1 g [x] = g x := rfl
theorem f2_2 {g : D → D → Option D} {x y : D} : f2 g [x, y] = g x y := rfl
theorem g1_1 {g : D → Option (List D)} {x : D} : g1 g [x] = g x := rfl
theorem m1_1 {f : D → D → Option D} {x y : D} : m1 f x [y] = f x y := rfl
theorem ty_ss {s : List Nat} : tyD "str" (.str s) = true := rfl
theorem ty_ll {s : List D} : tyD "list" (.lst s) = true := rfl
theorem fld_ins {z : Z} {k c : Nat} {fs : List (Nat × D)} : fldOf z k (.ins c fs) = fs.lookup k := rfl
theorem isB_int_non  : isB "int" .non = some false := rfl
theorem isB_int_bl {b : Bool} : isB "int" (.bl b) = some true := rfl
theorem isB_int_int {b : Int} : isB "int" (.int b) = some true := rfl
theorem isB_int_str {b : List Nat} : isB "int" (.str b) = some false := rfl
theorem isB_int_lst {b : List D} : isB "int" (.lst b) = some false := rfl
theorem isB_int_tup {b : List D} : isB "int" (.tup b) = some false := rfl
theorem isB_bool_non  : isB "bool" .non = some false := rfl
theorem isB_bool_bl {b : Bool} : isB "bool" (.bl b) = some true := rfl
theorem isB_bool_int {b : Int} : isB "bool" (.int b) = some false := rfl
theorem isB_bool_str {b : List Nat} : isB "bool" (.str b) = some false := rfl
theorem isB_bool_lst {b : List D} : isB "bool" (.lst b) = some false := rfl
theorem isB_bool_tup {b : List D} : isB "bool" (.tup b) = some false := rfl
theorem isB_str_non  : isB "str" .non = some false := rfl
theorem isB_str_bl {b : Bool} : isB "str" (.bl b) = some false := rfl
theorem isB_str_int {b : Int} : isB "str" (.int b) = some false := rfl
theorem isB_str_str {b : List Nat} : isB "str" (.str b) = some true := rfl
theorem isB_str_lst {b : List D} : isB "str" (.lst b) = some false := rfl
theorem isB_str_tup {b : List D} : isB "str" (.tup b) = some false := rfl
theorem isB_tuple_non  : isB "tuple" .non = some false := rfl
theorem isB_tuple_bl {b : Bool} : isB "tuple" (.bl b) = some false := rfl
theorem isB_tuple_int {b : Int} : isB "tuple" (.int b) = some false := rfl
theorem isB_tuple_str {b : List Nat} : isB "tuple" (.str b) = some false := rfl
theorem isB_tuple_lst {b : List D} : isB "tuple" (.lst b) = some false := rfl
theorem isB_tuple_tup {b : List D} : isB "tuple" (.tup b) = some true := rfl
theorem isB_list_non  : isB "list" .non = some false := rfl
theorem isB_list_bl {b : Bool} : isB "list" (.bl b) = some false := rfl
theorem isB_list_int {b : Int} : isB "list" (.int b) = some false := rfl
theorem isB_list_str {b : List Nat} : isB "list" (.str b) = some false := rfl
theorem isB_list_lst {b : List D} : isB "list" (.lst b) = some true := rfl
theorem isB_list_tup {b : List D} : isB "list" (.tup b) = some false := rfl
theorem dv_non  : toDV .non = .imm .non := rfl
theorem dv_bl {b : Bool} : toDV (.bl b) = .imm (.bl b) := rfl
theorem dv_int {b : Int} : toDV (.int b) = .imm (.int b) := rfl
theorem dv_str {b : List Nat} : toDV (.str b) = .imm (.str b) := rfl
theorem dv_lst {b : List D} : toDV (.lst b) = .imm (.lst b) := rfl
theorem dv_tup {b : List D} : toDV (.tup b) = .imm (.tup b) := rfl
theorem dv_han {n : Nat} : toDV (.han n) = .imm (.han n) := rfl
theorem dv_ins {c : Nat} {fs : List (Nat × D)} : toDV (.ins c fs) = .imm (.ins c fs) := rfl
theorem dv_brw {ds : List D} : toDV (.brw ds) = .brw ds := rfl
theorem eq_ii {a b : Int} : eqD (.int a) (.int b) = some (.bl (decide (a = b))) := rfl
theorem eq_ss {a b : List Nat} : eqD (.str a) (.str b) = some (.bl (decide (a = b))) := rfl
theorem ne_ii {a b : Int} : neD (.int a) (.int b) = some (.bl (!decide (a = b))) := rfl
theorem ne_ss {a b : List Nat} : neD (.str a) (.str b) = some (.bl (!decide (a = b))) := rfl
theorem isC_ins {c : Nat} {fs : List (Nat × D)} : isC c (.ins c fs) = some true := by simp [isC]
theorem pu_get {p r : Store} {c : MO} : (p ++ c :: r)[p.length]? = some c := by simp
theorem pu_set {p r : Store} {c c' : MO} : (p ++ c :: r).set p.length c' = p ++ c' :: r := by simp
def stB (n : Nat) (i : Int) (d : D) (z : Z) : Option MO → Option Z
  | some (.lst ds) => (ixOf ds.length i).map fun k => (z.1, z.2.set n (.lst (ds.set k d)))
  | _ => none
theorem st_han {n : Nat} {i : Int} {d : D} {z : Z} : setD (.han n) (.int i) d z = stB n i d z z.2[n]? := rfl
theorem st_lst {n : Nat} {i : Int} {d : D} {z : Z} {ds : List D} : stB n i d z (some (.lst ds)) = (ixOf ds.length i).map fun k => (z.1, z.2.set n (.lst (ds.set k d))) := rfl
def stO (j : Nat) (i : Int) (d : D) (z : Z) : Option (Option DV) → Option Z
  | some (some (.own ds)) => (ixOf ds.length i).map fun k => (z.1.set j (some (.own (ds.set k d))), z.2)
  | _ => none
theorem st_bor {j : Nat} {i : Int} {d : D} {z : Z} : setD (.bor j) (.int i) d z = stO j i d z z.1[j]? := rfl
theorem st_own {j : Nat} {i : Int} {d : D} {z : Z} {ds : List D} : stO j i d z (some (some (.own ds))) = (ixOf ds.length i).map fun k => (z.1.set j (some (.own (ds.set k d))), z.2) := rfl
theorem add_ii {a b : Int} : addD (.int a) (.int b) = some (.int (a + b)) := rfl
theorem sub_ii {a b : Int} : subD (.int a) (.int b) = some (.int (a - b)) := rfl
theorem lt_ii {a b : Int} : ltD (.int a) (.int b) = some (.bl (decide (a < b))) := rfl
theorem le_ii {a b : Int} : leD (.int a) (.int b) = some (.bl (decide (a ≤ b))) := rfl
theorem gt_ii {a b : Int} : gtD (.int a) (.int b) = some (.bl (decide (b < a))) := rfl
theorem ge_ii {a b : Int} : geD (.int a) (.int b) = some (.bl (decide (b ≤ a))) := rfl
theorem len_l {a : List D} : lenD (.lst a) = some (.int a.length) := rfl
theorem len_t {a : List D} : lenD (.tup a) = some (.int a.length) := rfl
theorem len_s {a : List Nat} : lenD (.str a) = some (.int a.length) := rfl
theorem tuple_l {a : List D} : tupleD (.lst a) = some (.tup a) := rfl
theorem tuple_t {a : List D} : tupleD (.tup a) = some (.tup a) := rfl
theorem list_l {a : List D} : listD (.lst a) = some a := rfl
theorem list_t {a : List D} : listD (.tup a) = some a := rfl
theorem is_non {d : D} : isD2 d .non = some (.bl (isNonD d)) := by cases d <;> rfl
theorem isnot_non {d : D} : isnotD d .non = some (.bl (!isNonD d)) := by cases d <;> rfl
end DE
set_option Elab.async false
set_option linter.all false
set_option maxRecDepth 100000
set_option maxHeartbeats 1000000
namespace DE
open PySem
def dgtB (z : Z) : Option (Option D) → Option (D × Z)
  | some (some d) => some (d, z)
  | _ => none
theorem dgt_some {z : Z} {d : D} : dgtB z (some (some d)) = some (d, z) := rfl
def kDgB (x : D) (y : D × Z) : Option (D × Z) := dgtB y.2 (atD y.2 x y.1)
def kDgA (fb : Ev) (x : D × Z) : Option (D × Z) := (fb x.2).bind (kDgB x.1)
theorem X_dgt {fa fb : Ev} {z : Z} : semDgt [fa, fb] z = (fa z).bind (kDgA fb) := by
  show ((fa z).bind fun x => (fb x.2).bind fun y => kDgt x y) = _
  congr 1; funext x; unfold kDgA; congr 1; funext y; unfold kDgt kDgB
  cases atD y.2 x.1 y.1 with
  | none => rfl
  | some o => cases o <;> rfl
def dinB (t : Bool) (z : Z) : Option (Option D) → Option (D × Z)
  | some o => some (.bl (xor t o.isSome), z)
  | _ => none
theorem din_some {t : Bool} {z : Z} {o : Option D} : dinB t z (some o) = some (.bl (xor t o.isSome), z) := rfl
def kDnB (t : Bool) (x : D) (y : D × Z) : Option (D × Z) := dinB t y.2 (atD y.2 y.1 x)
def kDnA (t : Bool) (fb : Ev) (x : D × Z) : Option (D × Z) := (fb x.2).bind (kDnB t x.1)
theorem A_cmx {o : CmpOp} {t : Bool} {a b : E} {z : Z} : evE (.cmx o (fDin t) a b) z = (evE a z).bind (kDnA t (evE b)) := by
  show ((evE a z).bind fun x => (evE b x.2).bind fun y => kDin t x y) = _
  congr 1; funext x; unfold kDnA; congr 1; funext y; unfold kDin kDnB
  cases atD y.2 y.1 x.1 <;> rfl
theorem T_cmx {o : CmpOp} {sem : Ev → Ev → Ev} {a b : E} {z : Z} : evT (.cmx o sem a b) z = (evE (.cmx o sem a b) z).bind kAs := rfl
def kDpB (x d : D) (y : D × Z) : Option Z := putD2 x y.1 d y.2
def kDpA (fb : Ev) (d : D) (x : D × Z) : Option Z := (fb x.2).bind (kDpB x.1 d)
theorem X_dput {fa fb : Ev} {d : D} {z : Z} : semDput [fa, fb] d z = (fa z).bind (kDpA fb d) := rfl
theorem X_dnewT {z : Z} : semDnew true [] z = some (.han z.2.length, (z.1, z.2 ++ [.dT []])) := rfl
theorem X_dnewK {z : Z} : semDnew false [] z = some (.han z.2.length, (z.1, z.2 ++ [.dK []])) := rfl
def kDoA (fv : Ev) (x : D × Z) : Option (D × Z) := (fv x.2).bind (kDone x)
theorem X_done {fk fv : Ev} {z : Z} : semDone [fk, fv] z = (fk z).bind (kDoA fv) := rfl
theorem done0 {z1 z2 : Z} {i : Int} : kDone (.tup [], z1) (.int i, z2) = some (.han z2.2.length, (z2.1, z2.2 ++ [.dT [([], .int i)]])) := rfl
def mG (g : Fn) (d : D) : Fn := fun ds S => g (d :: ds) S
def kM0 (c n : Nat) (g : Fn) (x : D × Z) : Option (D × Z) := if clsOf x.2 x.1 = some c then callB n (mG g x.1) ([], x.2) else none
theorem X_meth0 {c n : Nat} {g : Fn} {fo : Ev} {z : Z} : semMeth c n g [fo] z = (fo z).bind (kM0 c n g) := rfl
def kM1b (n : Nat) (g : Fn) (d : D) (y : D × Z) : Option (D × Z) := callB n (mG g d) ([y.1], y.2)
def kM1 (c n : Nat) (g : Fn) (fa : Ev) (x : D × Z) : Option (D × Z) := if clsOf x.2 x.1 = some c then (fa x.2).bind (kM1b n g x.1) else none
theorem X_meth1 {c n : Nat} {g : Fn} {fo fa : Ev} {z : Z} : semMeth c n g [fo, fa] z = (fo z).bind (kM1 c n g fa) := by
  show ((fo z).bind fun x => if clsOf x.2 x.1 = some c then ((fCons fa fNil) x.2).bind _ else none) = _
  congr 1; funext x; unfold kM1
  split
  · show (((fa x.2).bind fun u => (fNil u.2).map fun y => (u.1 :: y.1, y.2)).bind _) = _
    cases fa x.2 <;> rfl
  · rfl
def kM2c (n : Nat) (g : Fn) (d y1 : D) (w : D × Z) : Option (D × Z) := callB n (mG g d) ([y1, w.1], w.2)
def kM2b (n : Nat) (g : Fn) (fb : Ev) (d : D) (y : D × Z) : Option (D × Z) := (fb y.2).bind (kM2c n g d y.1)
def kM2 (c n : Nat) (g : Fn) (fa fb : Ev) (x : D × Z) : Option (D × Z) := if clsOf x.2 x.1 = some c then (fa x.2).bind (kM2b n g fb x.1) else none
theorem X_meth2 {c n : Nat} {g : Fn} {fo fa fb : Ev} {z : Z} : semMeth c n g [fo, fa, fb] z = (fo z).bind (kM2 c n g fa fb) := by
  show ((fo z).bind fun x => if clsOf x.2 x.1 = some c then ((fCons fa (fCons fb fNil)) x.2).bind _ else none) = _
  congr 1; funext x; unfold kM2
  split
  · show (((fa x.2).bind fun u => ((fCons fb fNil) u.2).map fun y => (u.1 :: y.1, y.2)).bind _) = _
    cases fa x.2 with
    | none => rfl
    | some u =>
      show ((((fb u.2).bind fun v => (fNil v.2).map fun y => (v.1 :: y.1, y.2)).map fun y => (u.1 :: y.1, y.2)).bind _) = (fb u.2).bind (kM2c n g x.1 u.1)
      cases fb u.2 <;> rfl
  · rfl
def mkC2 (n : Nat) (ρ : Rho) : Option (D × Store) → Option (D × Z)
  | some (.non, S) => some (.han n, (ρ, S))
  | _ => none
theorem mkC2_non {n : Nat} {ρ : Rho} {S : Store} : mkC2 n ρ (some (.non, S)) = some (.han n, (ρ, S)) := rfl
def mkCB (c n : Nat) (g : Fn) (x : List D × Z) : Option (D × Z) := (lendAll x.2 x.1).bind fun ds => if ds.length = n then mkC2 x.2.2.length x.2.1 (g (.han x.2.2.length :: ds) (x.2.2 ++ [.ins c []])) else none
def kMc2b (c n : Nat) (g : Fn) (x : D) (y : D × Z) : Option (D × Z) := mkCB c n g ([x, y.1], y.2)
def kMc2 (c n : Nat) (g : Fn) (fb : Ev) (x : D × Z) : Option (D × Z) := (fb x.2).bind (kMc2b c n g x.1)
theorem X_mkC2 {c n : Nat} {g : Fn} {fa fb : Ev} {z : Z} : semMkC c n g [fa, fb] z = (fa z).bind (kMc2 c n g fb) := by
  show (((fa z).bind fun x => ((fCons fb fNil) x.2).map fun y => (x.1 :: y.1, y.2)).bind _) = _
  cases fa z with
  | none => rfl
  | some u =>
    show ((((fb u.2).bind fun v => (fNil v.2).map fun y => (v.1 :: y.1, y.2)).map fun y => (u.1 :: y.1, y.2)).bind _) = (fb u.2).bind (kMc2b c n g u.1)
    cases fb u.2 <;> rfl
def gcB (S : Store) : Option (D × Store) → Option (D × Store)
  | some r => if (noh S.length r.1 && (r.2.take S.length).all (nohM S.length)) = true ∧ S.length ≤ r.2.length then some (r.1, r.2.take S.length) else none
  | none => none
theorem gc_ap {g : Fn} {ds : List D} {S : Store} : gcF g ds S = gcB S (g ds S) := by
  unfold gcF
  cases g ds S <;> rfl
def kP3c (i j l : Nat) (a b : D) (w : D × Z) : Option (Fl × Z) := kPar3 i j l ([a, b, w.1], w.2)
def kP3b (i j l : Nat) (fc : Ev) (a : D) (y : D × Z) : Option (Fl × Z) := (fc y.2).bind (kP3c i j l a y.1)
def kP3a (i j l : Nat) (fb fc : Ev) (x : D × Z) : Option (Fl × Z) := (fb x.2).bind (kP3b i j l fc x.1)
theorem X_par3 {i j l : Nat} {fa fb fc : Ev} {z : Z} : semPar3 i j l [fa, fb, fc] z = (fa z).bind (kP3a i j l fb fc) := by
  show ((((fa z).bind fun x => ((fCons fb (fCons fc fNil)) x.2).map fun y => (x.1 :: y.1, y.2))).bind _) = _
  cases fa z with
  | none => rfl
  | some u =>
    show (((((fb u.2).bind fun v => ((fCons fc fNil) v.2).map fun y => (v.1 :: y.1, y.2))).map fun y => (u.1 :: y.1, y.2)).bind _) = (fb u.2).bind (kP3b i j l fc u.1)
    cases fb u.2 with
    | none => rfl
    | some v =>
      show ((((((fc v.2).bind fun t => (fNil t.2).map fun y => (t.1 :: y.1, y.2)).map fun y => (v.1 :: y.1, y.2))).map fun y => (u.1 :: y.1, y.2)).bind _) = (fc v.2).bind (kP3c i j l u.1 v.1)
      cases fc v.2 <;> rfl
theorem par3_ap {i j l : Nat} {a b c : D} {z : Z} : kPar3 i j l ([a, b, c], z) = if (a.plain && b.plain && c.plain) = true then some (.nx, (((z.1.set i (some (.imm a))).set j (some (.imm b))).set l (some (.imm c)), z.2)) else none := rfl
theorem S_ext {sh : List Str → Scope → Stmt → Option (List Expr)} {sem : List Ev → EvS} {es : Es} {z : Z} : evS (.ext sh sem es) z = sem (evL es) z := rfl
end DE
set_option Elab.async false
set_option linter.all false
set_option maxRecDepth 100000
set_option maxHeartbeats 1000000
namespace DE
open PySem
theorem EV0 : ((((type_of% @A_var) ∧ (type_of% @br_imm)) ∧ ((type_of% @br_own) ∧ ((type_of% @br_brw) ∧ (type_of% @A_cst)))) ∧ (((type_of% @A_glo) ∧ (type_of% @A_bin)) ∧ ((type_of% @A_cmp) ∧ ((type_of% @A_idx) ∧ (type_of% @A_chn))))) ∧ ((((type_of% @chn_if) ∧ (type_of% @A_un)) ∧ ((type_of% @asB_bl) ∧ ((type_of% @and_if) ∧ (type_of% @or_if)))) ∧ (((type_of% @A_boo) ∧ (type_of% @A_b1)) ∧ ((type_of% @A_and) ∧ ((type_of% @A_or) ∧ (type_of% @notB_bl))))) := ⟨⟨⟨⟨@A_var, @br_imm⟩, ⟨@br_own, ⟨@br_brw, @A_cst⟩⟩⟩, ⟨⟨@A_glo, @A_bin⟩, ⟨@A_cmp, ⟨@A_idx, @A_chn⟩⟩⟩⟩, ⟨⟨⟨@chn_if, @A_un⟩, ⟨@asB_bl, ⟨@and_if, @or_if⟩⟩⟩, ⟨⟨@A_boo, @A_b1⟩, ⟨@A_and, ⟨@A_or, @notB_bl⟩⟩⟩⟩⟩
theorem EV1 : ((((type_of% @A_not) ∧ (type_of% @A_ife)) ∧ ((type_of% @A_tup) ∧ ((type_of% @A_esc) ∧ (type_of% @A_call)))) ∧ (((type_of% @A_bc) ∧ (type_of% @A_bt)) ∧ ((type_of% @A_mth) ∧ ((type_of% @A_own) ∧ (type_of% @own_own))))) ∧ ((((type_of% @own2_own) ∧ (type_of% @A_app)) ∧ ((type_of% @app_own) ∧ ((type_of% @app2_own) ∧ (type_of% @A_slc)))) ∧ (((type_of% @A_ono) ∧ (type_of% @part_int)) ∧ ((type_of% @A_oyes) ∧ ((type_of% @A_fr) ∧ (type_of% @A_cel))))) := ⟨⟨⟨⟨@A_not, @A_ife⟩, ⟨@A_tup, ⟨@A_esc, @A_call⟩⟩⟩, ⟨⟨@A_bc, @A_bt⟩, ⟨@A_mth, ⟨@A_own, @own_own⟩⟩⟩⟩, ⟨⟨⟨@own2_own, @A_app⟩, ⟨@app_own, ⟨@app2_own, @A_slc⟩⟩⟩, ⟨⟨@A_ono, @part_int⟩, ⟨@A_oyes, ⟨@A_fr, @A_cel⟩⟩⟩⟩⟩
theorem EV2 : ((((type_of% @A_ext) ∧ (type_of% @A_lnil)) ∧ ((type_of% @A_lcons) ∧ ((type_of% @T_boo) ∧ (type_of% @T_b1)))) ∧ (((type_of% @T_and) ∧ (type_of% @T_or)) ∧ ((type_of% @T_not) ∧ ((type_of% @T_var) ∧ (type_of% @T_cst))))) ∧ ((((type_of% @T_glo) ∧ (type_of% @T_bin)) ∧ ((type_of% @T_cmp) ∧ ((type_of% @T_idx) ∧ (type_of% @T_chn)))) ∧ (((type_of% @T_call) ∧ (type_of% @T_bc)) ∧ ((type_of% @T_bt) ∧ ((type_of% @T_mth) ∧ (type_of% @T_ext))))) := ⟨⟨⟨⟨@A_ext, @A_lnil⟩, ⟨@A_lcons, ⟨@T_boo, @T_b1⟩⟩⟩, ⟨⟨@T_and, @T_or⟩, ⟨@T_not, ⟨@T_var, @T_cst⟩⟩⟩⟩, ⟨⟨⟨@T_glo, @T_bin⟩, ⟨@T_cmp, ⟨@T_idx, @T_chn⟩⟩⟩, ⟨⟨@T_call, @T_bc⟩, ⟨@T_bt, ⟨@T_mth, @T_ext⟩⟩⟩⟩⟩
theorem EV3 : ((((type_of% @A_nil) ∧ (type_of% @A_cons)) ∧ ((type_of% @A_star) ∧ ((type_of% @F_dsp) ∧ (type_of% @F_bl)))) ∧ (((type_of% @F_blt) ∧ (type_of% @F_ext)) ∧ ((type_of% @OT_no) ∧ ((type_of% @OT_yes) ∧ (type_of% @I_ex))))) ∧ ((((type_of% @rg1_int) ∧ (type_of% @I_rg1)) ∧ ((type_of% @rg2_int) ∧ ((type_of% @I_rg2) ∧ (type_of% @zip_l)))) ∧ (((type_of% @zip_t) ∧ (type_of% @I_zip)) ∧ ((type_of% @I_ext) ∧ ((type_of% @X_isi) ∧ (type_of% @X_fld))))) := ⟨⟨⟨⟨@A_nil, @A_cons⟩, ⟨@A_star, ⟨@F_dsp, @F_bl⟩⟩⟩, ⟨⟨@F_blt, @F_ext⟩, ⟨@OT_no, ⟨@OT_yes, @I_ex⟩⟩⟩⟩, ⟨⟨⟨@rg1_int, @I_rg1⟩, ⟨@rg2_int, ⟨@I_rg2, @zip_l⟩⟩⟩, ⟨⟨@zip_t, @I_zip⟩, ⟨@I_ext, ⟨@X_isi, @X_fld⟩⟩⟩⟩⟩
theorem EV4 : ((((type_of% @X_gf) ∧ (type_of% @X_dsub)) ∧ ((type_of% @X_lrg) ∧ ((type_of% @X_en) ∧ (type_of% @en_lst)))) ∧ (((type_of% @en_str) ∧ (type_of% @en_ftp)) ∧ ((type_of% @en_tup) ∧ ((type_of% @X_mk1) ∧ (type_of% @X_callK1))))) ∧ ((((type_of% @X_callK2) ∧ (type_of% @X_callK3)) ∧ ((type_of% @seq_nx) ∧ ((type_of% @seq_rt) ∧ (type_of% @seq_bk)))) ∧ (((type_of% @seq_ct) ∧ (type_of% @S_nil)) ∧ ((type_of% @S_cons) ∧ ((type_of% @S_set) ∧ (type_of% @S_setC))))) := ⟨⟨⟨⟨@X_gf, @X_dsub⟩, ⟨@X_lrg, ⟨@X_en, @en_lst⟩⟩⟩, ⟨⟨@en_str, @en_ftp⟩, ⟨@en_tup, ⟨@X_mk1, @X_callK1⟩⟩⟩⟩, ⟨⟨⟨@X_callK2, @X_callK3⟩, ⟨@seq_nx, ⟨@seq_rt, @seq_bk⟩⟩⟩, ⟨⟨@seq_ct, @S_nil⟩, ⟨@S_cons, ⟨@S_set, @S_setC⟩⟩⟩⟩⟩
theorem EV5 : ((((type_of% @S_own) ∧ (type_of% @S_ownC)) ∧ ((type_of% @S_asg) ∧ ((type_of% @S_par) ∧ (type_of% @P_v)))) ∧ (((type_of% @P_o) ∧ (type_of% @S_exp)) ∧ ((type_of% @S_ret) ∧ ((type_of% @S_ife) ∧ (type_of% @S_fors))))) ∧ ((((type_of% @S_whil) ∧ (type_of% @S_pass)) ∧ ((type_of% @S_brk) ∧ ((type_of% @S_cont) ∧ (type_of% @G_nm)))) ∧ (((type_of% @G_ix) ∧ (type_of% @G_tp)) ∧ ((type_of% @G_nil) ∧ ((type_of% @G_cons) ∧ (type_of% @G_ext))))) := ⟨⟨⟨⟨@S_own, @S_ownC⟩, ⟨@S_asg, ⟨@S_par, @P_v⟩⟩⟩, ⟨⟨@P_o, @S_exp⟩, ⟨@S_ret, ⟨@S_ife, @S_fors⟩⟩⟩⟩, ⟨⟨⟨@S_whil, @S_pass⟩, ⟨@S_brk, ⟨@S_cont, @G_nm⟩⟩⟩, ⟨⟨@G_ix, @G_tp⟩, ⟨@G_nil, ⟨@G_cons, @G_ext⟩⟩⟩⟩⟩
theorem EV6 : ((((type_of% @fn_ap) ∧ (type_of% @end_rt)) ∧ ((type_of% @end_nx) ∧ ((type_of% @okL0) ∧ (type_of% @okL1)))) ∧ (((type_of% @okL2) ∧ (type_of% @okL3)) ∧ ((type_of% @okL4) ∧ ((type_of% @plain_str) ∧ (type_of% @plain_int))))) ∧ ((((type_of% @plain_bl) ∧ (type_of% @plain_non)) ∧ ((type_of% @plain_lst) ∧ ((type_of% @plain_tup) ∧ (type_of% @plain_han)))) ∧ (((type_of% @plain_ins) ∧ (type_of% @rd_str)) ∧ ((type_of% @rd_int) ∧ ((type_of% @rd_bl) ∧ (type_of% @rd_non))))) := ⟨⟨⟨⟨@fn_ap, @end_rt⟩, ⟨@end_nx, ⟨@okL0, @okL1⟩⟩⟩, ⟨⟨@okL2, @okL3⟩, ⟨@okL4, ⟨@plain_str, @plain_int⟩⟩⟩⟩, ⟨⟨⟨@plain_bl, @plain_non⟩, ⟨@plain_lst, ⟨@plain_tup, @plain_han⟩⟩⟩, ⟨⟨@plain_ins, @rd_str⟩, ⟨@rd_int, ⟨@rd_bl, @rd_non⟩⟩⟩⟩⟩
theorem EV7 : ((((type_of% @rd_lst) ∧ (type_of% @rd_tup)) ∧ ((type_of% @rd_ins) ∧ ((type_of% @rd_bor) ∧ (type_of% @rd_han)))) ∧ (((type_of% @rdB_own) ∧ (type_of% @rdB_brw)) ∧ ((type_of% @rdH_lst) ∧ ((type_of% @rdH_ins) ∧ (type_of% @ln_str))))) ∧ ((((type_of% @ln_int) ∧ (type_of% @ln_bl)) ∧ ((type_of% @ln_non) ∧ ((type_of% @ln_lst) ∧ (type_of% @ln_tup)))) ∧ (((type_of% @ln_ins) ∧ (type_of% @ln_han)) ∧ ((type_of% @ln_0) ∧ ((type_of% @ln_s) ∧ (type_of% @rdA_0))))) := ⟨⟨⟨⟨@rd_lst, @rd_tup⟩, ⟨@rd_ins, ⟨@rd_bor, @rd_han⟩⟩⟩, ⟨⟨@rdB_own, @rdB_brw⟩, ⟨@rdH_lst, ⟨@rdH_ins, @ln_str⟩⟩⟩⟩, ⟨⟨⟨@ln_int, @ln_bl⟩, ⟨@ln_non, ⟨@ln_lst, @ln_tup⟩⟩⟩, ⟨⟨@ln_ins, @ln_han⟩, ⟨@ln_0, ⟨@ln_s, @rdA_0⟩⟩⟩⟩⟩
theorem EV8 : ((((type_of% @rdA_s) ∧ (type_of% @es_bor)) ∧ ((type_of% @es_own) ∧ ((type_of% @es_lst) ∧ (type_of% @es_tup)))) ∧ (((type_of% @es_str) ∧ (type_of% @es_non)) ∧ ((type_of% @it_lst) ∧ ((type_of% @it_tup) ∧ (type_of% @it_str))))) ∧ ((((type_of% @its_lst) ∧ (type_of% @its_tup)) ∧ ((type_of% @f1_1) ∧ ((type_of% @f2_2) ∧ (type_of% @g1_1)))) ∧ (((type_of% @m1_1) ∧ (type_of% @ty_ss)) ∧ ((type_of% @ty_ll) ∧ ((type_of% @fld_ins) ∧ (type_of% @isB_int_non))))) := ⟨⟨⟨⟨@rdA_s, @es_bor⟩, ⟨@es_own, ⟨@es_lst, @es_tup⟩⟩⟩, ⟨⟨@es_str, @es_non⟩, ⟨@it_lst, ⟨@it_tup, @it_str⟩⟩⟩⟩, ⟨⟨⟨@its_lst, @its_tup⟩, ⟨@f1_1, ⟨@f2_2, @g1_1⟩⟩⟩, ⟨⟨@m1_1, @ty_ss⟩, ⟨@ty_ll, ⟨@fld_ins, @isB_int_non⟩⟩⟩⟩⟩
theorem EV9 : ((((type_of% @isB_int_bl) ∧ (type_of% @isB_int_int)) ∧ ((type_of% @isB_int_str) ∧ ((type_of% @isB_int_lst) ∧ (type_of% @isB_int_tup)))) ∧ (((type_of% @isB_bool_non) ∧ (type_of% @isB_bool_bl)) ∧ ((type_of% @isB_bool_int) ∧ ((type_of% @isB_bool_str) ∧ (type_of% @isB_bool_lst))))) ∧ ((((type_of% @isB_bool_tup) ∧ (type_of% @isB_str_non)) ∧ ((type_of% @isB_str_bl) ∧ ((type_of% @isB_str_int) ∧ (type_of% @isB_str_str)))) ∧ (((type_of% @isB_str_lst) ∧ (type_of% @isB_str_tup)) ∧ ((type_of% @isB_tuple_non) ∧ ((type_of% @isB_tuple_bl) ∧ (type_of% @isB_tuple_int))))) := ⟨⟨⟨⟨@isB_int_bl, @isB_int_int⟩, ⟨@isB_int_str, ⟨@isB_int_lst, @isB_int_tup⟩⟩⟩, ⟨⟨@isB_bool_non, @isB_bool_bl⟩, ⟨@isB_bool_int, ⟨@isB_bool_str, @isB_bool_lst⟩⟩⟩⟩, ⟨⟨⟨@isB_bool_tup, @isB_str_non⟩, ⟨@isB_str_bl, ⟨@isB_str_int, @isB_str_str⟩⟩⟩, ⟨⟨@isB_str_lst, @isB_str_tup⟩, ⟨@isB_tuple_non, ⟨@isB_tuple_bl, @isB_tuple_int⟩⟩⟩⟩⟩
theorem EV10 : ((((type_of% @isB_tuple_str) ∧ (type_of% @isB_tuple_lst)) ∧ ((type_of% @isB_tuple_tup) ∧ ((type_of% @isB_list_non) ∧ (type_of% @isB_list_bl)))) ∧ (((type_of% @isB_list_int) ∧ (type_of% @isB_list_str)) ∧ ((type_of% @isB_list_lst) ∧ ((type_of% @isB_list_tup) ∧ (type_of% @dv_non))))) ∧ ((((type_of% @dv_bl) ∧ (type_of% @dv_int)) ∧ ((type_of% @dv_str) ∧ ((type_of% @dv_lst) ∧ (type_of% @dv_tup)))) ∧ (((type_of% @dv_han) ∧ (type_of% @dv_ins)) ∧ ((type_of% @dv_brw) ∧ ((type_of% @eq_ii) ∧ (type_of% @eq_ss))))) := ⟨⟨⟨⟨@isB_tuple_str, @isB_tuple_lst⟩, ⟨@isB_tuple_tup, ⟨@isB_list_non, @isB_list_bl⟩⟩⟩, ⟨⟨@isB_list_int, @isB_list_str⟩, ⟨@isB_list_lst, ⟨@isB_list_tup, @dv_non⟩⟩⟩⟩, ⟨⟨⟨@dv_bl, @dv_int⟩, ⟨@dv_str, ⟨@dv_lst, @dv_tup⟩⟩⟩, ⟨⟨@dv_han, @dv_ins⟩, ⟨@dv_brw, ⟨@eq_ii, @eq_ss⟩⟩⟩⟩⟩
theorem EV11 : ((((type_of% @ne_ii) ∧ (type_of% @ne_ss)) ∧ ((type_of% @isC_ins) ∧ ((type_of% @pu_get) ∧ (type_of% @pu_set)))) ∧ (((type_of% @st_han) ∧ (type_of% @st_lst)) ∧ ((type_of% @st_bor) ∧ ((type_of% @st_own) ∧ (type_of% @add_ii))))) ∧ ((((type_of% @sub_ii) ∧ (type_of% @lt_ii)) ∧ ((type_of% @le_ii) ∧ ((type_of% @gt_ii) ∧ (type_of% @ge_ii)))) ∧ (((type_of% @len_l) ∧ (type_of% @len_t)) ∧ ((type_of% @len_s) ∧ ((type_of% @tuple_l) ∧ (type_of% @tuple_t))))) := ⟨⟨⟨⟨@ne_ii, @ne_ss⟩, ⟨@isC_ins, ⟨@pu_get, @pu_set⟩⟩⟩, ⟨⟨@st_han, @st_lst⟩, ⟨@st_bor, ⟨@st_own, @add_ii⟩⟩⟩⟩, ⟨⟨⟨@sub_ii, @lt_ii⟩, ⟨@le_ii, ⟨@gt_ii, @ge_ii⟩⟩⟩, ⟨⟨@len_l, @len_t⟩, ⟨@len_s, ⟨@tuple_l, @tuple_t⟩⟩⟩⟩⟩
theorem EV12 : ((((type_of% @list_l) ∧ (type_of% @list_t)) ∧ ((type_of% @is_non) ∧ ((type_of% @isnot_non) ∧ (type_of% @dgt_some)))) ∧ (((type_of% @X_dgt) ∧ (type_of% @din_some)) ∧ ((type_of% @A_cmx) ∧ ((type_of% @T_cmx) ∧ (type_of% @X_dput))))) ∧ ((((type_of% @X_dnewT) ∧ (type_of% @X_dnewK)) ∧ ((type_of% @X_done) ∧ ((type_of% @done0) ∧ (type_of% @X_meth0)))) ∧ (((type_of% @X_meth1) ∧ (type_of% @X_meth2)) ∧ ((type_of% @mkC2_non) ∧ ((type_of% @X_mkC2) ∧ (type_of% @gc_ap))))) := ⟨⟨⟨⟨@list_l, @list_t⟩, ⟨@is_non, ⟨@isnot_non, @dgt_some⟩⟩⟩, ⟨⟨@X_dgt, @din_some⟩, ⟨@A_cmx, ⟨@T_cmx, @X_dput⟩⟩⟩⟩, ⟨⟨⟨@X_dnewT, @X_dnewK⟩, ⟨@X_done, ⟨@done0, @X_meth0⟩⟩⟩, ⟨⟨@X_meth1, @X_meth2⟩, ⟨@mkC2_non, ⟨@X_mkC2, @gc_ap⟩⟩⟩⟩⟩
theorem EV13 : ((((type_of% @X_par3) ∧ (type_of% @par3_ap)) ∧ ((type_of% @S_ext) ∧ ((type_of% @kRd2.eq_1) ∧ (type_of% @kRd.eq_1)))) ∧ (((type_of% @kBin2.eq_1) ∧ (type_of% @kBin.eq_1)) ∧ ((type_of% @kChn4.eq_1) ∧ ((type_of% @kChn3.eq_1) ∧ (type_of% @kChn2.eq_1))))) ∧ ((((type_of% @kChn.eq_1) ∧ (type_of% @kUn2.eq_1)) ∧ ((type_of% @kUn.eq_1) ∧ ((type_of% @kAnd.eq_1) ∧ (type_of% @kOr.eq_1)))) ∧ (((type_of% @kNot.eq_1) ∧ (type_of% @kIfe.eq_1)) ∧ ((type_of% @kEsc.eq_1) ∧ ((type_of% @kCall.eq_1) ∧ (type_of% @kBc.eq_1))))) := ⟨⟨⟨⟨@X_par3, @par3_ap⟩, ⟨@S_ext, ⟨@kRd2.eq_1, @kRd.eq_1⟩⟩⟩, ⟨⟨@kBin2.eq_1, @kBin.eq_1⟩, ⟨@kChn4.eq_1, ⟨@kChn3.eq_1, @kChn2.eq_1⟩⟩⟩⟩, ⟨⟨⟨@kChn.eq_1, @kUn2.eq_1⟩, ⟨@kUn.eq_1, ⟨@kAnd.eq_1, @kOr.eq_1⟩⟩⟩, ⟨⟨@kNot.eq_1, @kIfe.eq_1⟩, ⟨@kEsc.eq_1, ⟨@kCall.eq_1, @kBc.eq_1⟩⟩⟩⟩⟩
theorem EV14 : ((((type_of% @kBl.eq_1) ∧ (type_of% @kMth4.eq_1)) ∧ ((type_of% @kMth3.eq_1) ∧ ((type_of% @kMth2.eq_1) ∧ (type_of% @kMth1.eq_1)))) ∧ (((type_of% @kMth.eq_1) ∧ (type_of% @kOwn3.eq_1)) ∧ ((type_of% @kOwn2.eq_1) ∧ ((type_of% @kOwn.eq_1) ∧ (type_of% @kApp.eq_1))))) ∧ ((((type_of% @kSl4.eq_1) ∧ (type_of% @kSl3.eq_1)) ∧ ((type_of% @kSl2.eq_1) ∧ ((type_of% @kSl.eq_1) ∧ (type_of% @kPart.eq_1)))) ∧ (((type_of% @kAs.eq_1) ∧ (type_of% @kTand.eq_1)) ∧ ((type_of% @kTor.eq_1) ∧ ((type_of% @kCons.eq_1) ∧ (type_of% @kStar2.eq_1))))) := ⟨⟨⟨⟨@kBl.eq_1, @kMth4.eq_1⟩, ⟨@kMth3.eq_1, ⟨@kMth2.eq_1, @kMth1.eq_1⟩⟩⟩, ⟨⟨@kMth.eq_1, @kOwn3.eq_1⟩, ⟨@kOwn2.eq_1, ⟨@kOwn.eq_1, @kApp.eq_1⟩⟩⟩⟩, ⟨⟨⟨@kSl4.eq_1, @kSl3.eq_1⟩, ⟨@kSl2.eq_1, ⟨@kSl.eq_1, @kPart.eq_1⟩⟩⟩, ⟨⟨@kAs.eq_1, @kTand.eq_1⟩, ⟨@kTor.eq_1, ⟨@kCons.eq_1, @kStar2.eq_1⟩⟩⟩⟩⟩
theorem EV15 : ((((type_of% @kStar1.eq_1) ∧ (type_of% @kStar.eq_1)) ∧ ((type_of% @kEx.eq_1) ∧ ((type_of% @kRg1.eq_1) ∧ (type_of% @kRg22.eq_1)))) ∧ (((type_of% @kRg2.eq_1) ∧ (type_of% @kZip2.eq_1)) ∧ ((type_of% @kZip.eq_1) ∧ ((type_of% @kIsi2.eq_1) ∧ (type_of% @kIsi.eq_1))))) ∧ ((((type_of% @kFld.eq_1) ∧ (type_of% @kGf.eq_1)) ∧ ((type_of% @kLrg.eq_1) ∧ ((type_of% @kEn.eq_1) ∧ (type_of% @kMk1.eq_1)))) ∧ (((type_of% @kCk1.eq_1) ∧ (type_of% @kCk3.eq_1)) ∧ ((type_of% @kAsg.eq_1) ∧ ((type_of% @kPar.eq_1) ∧ (type_of% @kPv.eq_1))))) := ⟨⟨⟨⟨@kStar1.eq_1, @kStar.eq_1⟩, ⟨@kEx.eq_1, ⟨@kRg1.eq_1, @kRg22.eq_1⟩⟩⟩, ⟨⟨@kRg2.eq_1, @kZip2.eq_1⟩, ⟨@kZip.eq_1, ⟨@kIsi2.eq_1, @kIsi.eq_1⟩⟩⟩⟩, ⟨⟨⟨@kFld.eq_1, @kGf.eq_1⟩, ⟨@kLrg.eq_1, ⟨@kEn.eq_1, @kMk1.eq_1⟩⟩⟩, ⟨⟨@kCk1.eq_1, @kCk3.eq_1⟩, ⟨@kAsg.eq_1, ⟨@kPar.eq_1, @kPv.eq_1⟩⟩⟩⟩⟩
theorem EV16 : ((((type_of% @kSif.eq_1) ∧ (type_of% @kFor.eq_1)) ∧ ((type_of% @kIx2.eq_1) ∧ ((type_of% @kIx.eq_1) ∧ (type_of% @kTp.eq_1)))) ∧ (((type_of% @kDgB.eq_1) ∧ (type_of% @kDgA.eq_1)) ∧ ((type_of% @kDnB.eq_1) ∧ ((type_of% @kDnA.eq_1) ∧ (type_of% @kDpB.eq_1))))) ∧ ((((type_of% @kDpA.eq_1) ∧ (type_of% @kDoA.eq_1)) ∧ ((type_of% @kM0.eq_1) ∧ ((type_of% @kM1b.eq_1) ∧ (type_of% @kM1.eq_1)))) ∧ (((type_of% @kM2c.eq_1) ∧ (type_of% @kM2b.eq_1)) ∧ ((type_of% @kM2.eq_1) ∧ ((type_of% @kMc2b.eq_1) ∧ (type_of% @kMc2.eq_1))))) := ⟨⟨⟨⟨@kSif.eq_1, @kFor.eq_1⟩, ⟨@kIx2.eq_1, ⟨@kIx.eq_1, @kTp.eq_1⟩⟩⟩, ⟨⟨@kDgB.eq_1, @kDgA.eq_1⟩, ⟨@kDnB.eq_1, ⟨@kDnA.eq_1, @kDpB.eq_1⟩⟩⟩⟩, ⟨⟨⟨@kDpA.eq_1, @kDoA.eq_1⟩, ⟨@kM0.eq_1, ⟨@kM1b.eq_1, @kM1.eq_1⟩⟩⟩, ⟨⟨@kM2c.eq_1, @kM2b.eq_1⟩, ⟨@kM2.eq_1, ⟨@kMc2b.eq_1, @kMc2.eq_1⟩⟩⟩⟩⟩
theorem EV17 : ((((type_of% @kP3c.eq_1) ∧ (type_of% @kP3b.eq_1)) ∧ ((type_of% @kP3a.eq_1) ∧ ((type_of% @rho0.eq_1) ∧ (type_of% @bin2.eq_1)))) ∧ (((type_of% @tupB.eq_1) ∧ (type_of% @dspB.eq_1)) ∧ ((type_of% @callB.eq_1) ∧ ((type_of% @bcB.eq_1) ∧ (type_of% @blB.eq_1))))) ∧ ((((type_of% @callKB.eq_1) ∧ (type_of% @asgB.eq_1)) ∧ ((type_of% @retB.eq_1) ∧ ((type_of% @gfB.eq_1) ∧ (type_of% @rgB.eq_1)))) ∧ (((type_of% @mkCB.eq_1) ∧ (type_of% @mG.eq_1)) ∧ ((type_of% @kCk2.eq_1) ∧ ((type_of% @kCk2.eq_2) ∧ (type_of% @Gts.len.eq_1))))) := ⟨⟨⟨⟨@kP3c.eq_1, @kP3b.eq_1⟩, ⟨@kP3a.eq_1, ⟨@rho0.eq_1, @bin2.eq_1⟩⟩⟩, ⟨⟨@tupB.eq_1, @dspB.eq_1⟩, ⟨@callB.eq_1, ⟨@bcB.eq_1, @blB.eq_1⟩⟩⟩⟩, ⟨⟨⟨@callKB.eq_1, @asgB.eq_1⟩, ⟨@retB.eq_1, ⟨@gfB.eq_1, @rgB.eq_1⟩⟩⟩, ⟨⟨@mkCB.eq_1, @mG.eq_1⟩, ⟨@kCk2.eq_1, ⟨@kCk2.eq_2, @Gts.len.eq_1⟩⟩⟩⟩⟩
theorem EV18 : (type_of% @Gts.len.eq_2) ∧ ((type_of% @pick.eq_1) ∧ (type_of% @pick.eq_2)) := ⟨@Gts.len.eq_2, ⟨@pick.eq_1, @pick.eq_2⟩⟩
theorem EVZ : (type_of% @EV0) ∧ (type_of% @EV1) ∧ (type_of% @EV2) ∧ (type_of% @EV3) ∧ (type_of% @EV4) ∧ (type_of% @EV5) ∧ (type_of% @EV6) ∧ (type_of% @EV7) ∧ (type_of% @EV8) ∧ (type_of% @EV9) ∧ (type_of% @EV10) ∧ (type_of% @EV11) ∧ (type_of% @EV12) ∧ (type_of% @EV13) ∧ (type_of% @EV14) ∧ (type_of% @EV15) ∧ (type_of% @EV16) ∧ (type_of% @EV17) ∧ (type_of% @EV18) := ⟨@EV0, @EV1, @EV2, @EV3, @EV4, @EV5, @EV6, @EV7, @EV8, @EV9, @EV10, @EV11, @EV12, @EV13, @EV14, @EV15, @EV16, @EV17, @EV18⟩
theorem EVY : (type_of% @Option.bind_some.{0,0}) ∧ (type_of% @Option.bind_none.{0,0}) ∧ (type_of% @Option.map_some.{0,0}) ∧ (type_of% @Option.map_none.{0,0}) ∧ (type_of% @List.getElem?_cons_zero.{0}) ∧ (type_of% @List.getElem?_cons_succ.{0}) ∧ (type_of% @List.set_cons_zero.{0}) ∧ (type_of% @List.set_cons_succ.{0}) ∧ (type_of% @List.map_cons.{0,0}) ∧ (type_of% @List.map_nil.{0,0}) ∧ (type_of% @List.length_cons.{0}) ∧ (type_of% @List.length_nil.{0}) ∧ (type_of% @List.cons_append.{0}) ∧ (type_of% @List.nil_append.{0}) ∧ (type_of% @Bool.and_true) ∧ (type_of% @Bool.true_and) ∧ (type_of% @Bool.and_false) ∧ (type_of% @Bool.false_and) ∧ (type_of% @List.all_cons.{0}) ∧ (type_of% @List.all_nil.{0}) ∧ (type_of% @Bool.not_true) ∧ (type_of% @Bool.not_false) ∧ (type_of% @Bool.false_eq_true) ∧ (type_of% @if_true.{1}) ∧ (type_of% @if_false.{1}) ∧ (type_of% @decide_true) ∧ (type_of% @decide_false) ∧ (type_of% @Nat.zero_add) := ⟨@Option.bind_some.{0,0}, @Option.bind_none.{0,0}, @Option.map_some.{0,0}, @Option.map_none.{0,0}, @List.getElem?_cons_zero.{0}, @List.getElem?_cons_succ.{0}, @List.set_cons_zero.{0}, @List.set_cons_succ.{0}, @List.map_cons.{0,0}, @List.map_nil.{0,0}, @List.length_cons.{0}, @List.length_nil.{0}, @List.cons_append.{0}, @List.nil_append.{0}, @Bool.and_true, @Bool.true_and, @Bool.and_false, @Bool.false_and, @List.all_cons.{0}, @List.all_nil.{0}, @Bool.not_true, @Bool.not_false, @Bool.false_eq_true, @if_true.{1}, @if_false.{1}, @decide_true, @decide_false, @Nat.zero_add⟩
end DE
set_option Elab.async false
set_option linter.all false
set_option maxRecDepth 100000
set_option maxHeartbeats 1000000
namespace DE
open PySem
theorem wipe1 (ρ : Rho) (i : Nat) : wipeR ρ [i] = ρ.set i none := rfl
def lnB : Option (Option DV) → Option D
  | some (some (.own ds)) => some (.brw ds)
  | some (some (.brw ds)) => some (.brw ds)
  | _ => none
theorem dd_lnbor {z : Z} {i : Nat} : lendD z (.bor i) = lnB z.1[i]? := rfl
theorem dd_lnown {ds : List D} : lnB (some (some (.own ds))) = some (.brw ds) := rfl
theorem dd_lnbrw {ds : List D} : lnB (some (some (.brw ds))) = some (.brw ds) := rfl
theorem okN_of {n : Nat} (h : n ≤ 16777216) : okN n = true := Nat.ble_eq_true_of_le h
theorem bigOk_of {i : Int} (h1 : -1000000000 ≤ i) (h2 : i ≤ 1000000000) : bigOk i = true := Nat.ble_eq_true_of_le (by omega)
theorem rng_map (m : Nat) : rngL 0 m = (List.range m).map fun i => D.int (i : Nat) := by
  unfold rngL
  exact List.map_congr_left fun i _ => by rw [Int.zero_add]
theorem allD_map (bs : List Bool) : allD (.lst (bs.map D.bl)) = some (.bl (bs.all id)) := by simp [allD, bls_map]
end DE
set_option Elab.async false
set_option linter.all false
set_option maxRecDepth 100000
set_option maxHeartbeats 1000000
namespace KK
open PySem DE
theorem cut_take {α : Type} (xs : List α) (i : Nat) : cutL xs none (some (i : Int)) = xs.take i := by
  unfold cutL
  have h0 : HT.sIx xs.length 0 none = 0 := rfl
  have h1 : HT.sIx xs.length xs.length (some (i : Int)) = min i xs.length := by unfold HT.sIx; simp; omega
  rw [h0, h1, List.drop_zero, Nat.sub_zero]
  by_cases h : i ≤ xs.length
  · rw [Nat.min_eq_left h]
  · rw [Nat.min_eq_right (by omega), List.take_of_length_le (Nat.le_refl _), List.take_of_length_le (by omega)]
theorem ix20 {x y : D} : ixD (.lst [x, y]) (.int 0) = some x := rfl
theorem ix21 {x y : D} : ixD (.lst [x, y]) (.int 1) = some y := rfl
theorem ixo20 : ixOf 2 0 = some 0 := rfl
theorem ixo21 : ixOf 2 1 = some 1 := rfl
theorem mul_lit {a b : Int} (h : -18446744073709551616 < b ∧ b < 18446744073709551616) : mulD (.int a) (.int b) = some (.int (a * b)) := by
  simp only [mulD, h, and_self, or_true, if_true]
theorem mod_pos {a b : Int} (h : 0 < b) : modD (.int a) (.int b) = some (.int (a % b)) := by
  simp only [modD, h, if_true]
theorem fdiv_pos {a b : Int} (h : 0 < b ∧ b < 1073741824) : fdivD (.int a) (.int b) = some (.int (a / b)) := by
  simp only [fdivD, h, and_self, if_true]
theorem int_i {a : Int} : intD (.int a) = some (.int a) := rfl
theorem draw_eq {c : MO} (hS : Purse c) (p r : Store) (k : Int) (hk : 0 < k) (hk2 : k < 1000) : ∃ d c', m_law_draw [.han p.length, .int k] (p ++ c :: r) = some (.int d, p ++ c' :: r) ∧ 0 ≤ d ∧ d < k ∧ Purse c' := by
  obtain ⟨a, b, rfl, ha, hb, hb2⟩ := hS
  unfold m_law_draw ir_law_draw
  have hk3 : k < 1073741824 := by omega
  by_cases h : 0 < a
  · refine ⟨a % k, .lst [.int (a / k), .int b], ?_, Int.emod_nonneg _ (by omega), Int.emod_lt_of_pos _ hk, a / k, b, rfl, Int.ediv_nonneg ha (by omega), hb, hb2⟩
    simp only [EVZ, EVY, List.replicate, ↓reduceIte, Nat.reduceAdd, Nat.reduceSub, dd_lnbor, dd_lnown, dd_lnbrw, ix20, ixo20, divmodD, h, hk, hk3, decide_true, and_self]
  · refine ⟨(b * 48683 + 40503) % 2147483647 / 1024 % k, .lst [.int a, .int ((b * 48683 + 40503) % 2147483647)], ?_, Int.emod_nonneg _ (by omega), Int.emod_lt_of_pos _ hk, a, _, rfl, ha, Int.emod_nonneg _ (by omega), Int.emod_lt_of_pos _ (by omega)⟩
    simp only [EVZ, EVY, List.replicate, ↓reduceIte, Nat.reduceAdd, Nat.reduceSub, dd_lnbor, dd_lnown, dd_lnbrw, ix20, ix21, ixo21, h, decide_false, mul_lit (a := b) (b := 48683) (by decide), int_i, mod_pos (b := 2147483647) (by decide), fdiv_pos (b := 1024) (by decide), mod_pos hk]
theorem drawN_eq {c : MO} (hS : Purse c) (p r : Store) (k : Nat) (hk : 0 < k) (hk2 : k < 1000) : ∃ (d : Nat) (c' : MO), m_law_draw [.han p.length, .int (k : Nat)] (p ++ c :: r) = some (.int (d : Nat), p ++ c' :: r) ∧ d < k ∧ Purse c' := by
  obtain ⟨d, c', e, h1, h2, h3⟩ := draw_eq hS p r (k : Nat) (by omega) (by omega)
  refine ⟨d.toNat, c', ?_, by omega, h3⟩
  rw [e, Int.toNat_of_nonneg h1]
theorem purse_cell (S : Store) (ns : List Int) (k : Nat) (hk : k < 4) : ∃ c, m_law_purse [.lst (ns.map .int), .int (k : Nat)] S = some (.han S.length, S ++ [c]) ∧ Purse c := by
  have loop : ∀ (l : List Int) (cell sd : Int) (o : Option DV), 0 ≤ sd → sd < 2147483648 → ∃ (sd' : Int) (o' : Option DV), 0 ≤ sd' ∧ sd' < 2147483648 ∧ (l ≠ [] → sd' < 2147483647) ∧ forL (evG (.nm 4)) (evSs law_purse_b0) (l.map .int) ([some (.imm (.lst (ns.map .int))), some (.imm (.int (k : Nat))), some (.imm (.int cell)), some (.imm (.int sd)), o], S) = some (.nx, ([some (.imm (.lst (ns.map .int))), some (.imm (.int (k : Nat))), some (.imm (.int cell)), some (.imm (.int sd')), o'], S)) := by
    intro l cell
    induction l with
    | nil => intro sd o h1 h2; exact ⟨sd, o, h1, h2, fun h => absurd rfl h, rfl⟩
    | cons x l ih =>
      intro sd o h1 h2
      obtain ⟨sd', o', g1, g2, g3, g4⟩ := ih ((sd * 41539 + x % 2147483647 + 101) % 2147483647) (some (.imm (.int x))) (Int.emod_nonneg _ (by omega)) (by have := Int.emod_lt_of_pos (sd * 41539 + x % 2147483647 + 101) (show (0 : Int) < 2147483647 by omega); omega)
      refine ⟨sd', o', g1, g2, fun _ => ?_, ?_⟩
      · cases l with
        | nil =>
          simp only [forL, List.map_nil, Option.some.injEq, Prod.mk.injEq, List.cons.injEq, DV.imm.injEq, D.int.injEq] at g4
          have := Int.emod_lt_of_pos (sd * 41539 + x % 2147483647 + 101) (show (0 : Int) < 2147483647 by omega)
          omega
        | cons y l => exact g3 (by simp)
      · rw [List.map_cons]
        unfold forL
        have hb : evSs law_purse_b0 ([some (.imm (.lst (ns.map .int))), some (.imm (.int (k : Nat))), some (.imm (.int cell)), some (.imm (.int sd)), some (.imm (.int x))], S) = some (.nx, ([some (.imm (.lst (ns.map .int))), some (.imm (.int (k : Nat))), some (.imm (.int cell)), some (.imm (.int ((sd * 41539 + x % 2147483647 + 101) % 2147483647))), some (.imm (.int x))], S)) := by
          unfold law_purse_b0
          simp only [EVZ, EVY, List.replicate, ↓reduceIte, Nat.reduceAdd, Nat.reduceSub, dd_lnbor, dd_lnown, dd_lnbrw, mul_lit (a := sd) (b := 41539) (by decide), int_i, mod_pos (b := 2147483647) (by decide)]
        have hg : evG (.nm 4) (.int x) ([some (.imm (.lst (ns.map .int))), some (.imm (.int (k : Nat))), some (.imm (.int cell)), some (.imm (.int sd)), o], S) = some ([some (.imm (.lst (ns.map .int))), some (.imm (.int (k : Nat))), some (.imm (.int cell)), some (.imm (.int sd)), some (.imm (.int x))], S) := rfl
        rw [hg, Option.bind_some, hb, Option.bind_some]
        exact g4
  have main : ∀ cell : Int, (∀ o1 o2 : Option DV, evE (.ife (.cmp .Lt ltD (.var 1) (.bc "len" (f1 lenD) (.cons (.var 0) .nil))) (.idx ixD (.var 0) (.var 1)) (.bin .Mult mulD (.cst (.int 6151)) (.bin .Add addD (.var 1) (.cst (.int 5))))) ([some (.imm (.lst (ns.map .int))), some (.imm (.int (k : Nat))), none, o1, o2], S) = some (.int cell, ([some (.imm (.lst (ns.map .int))), some (.imm (.int (k : Nat))), none, o1, o2], S))) → ∃ c, m_law_purse [.lst (ns.map .int), .int (k : Nat)] S = some (.han S.length, S ++ [c]) ∧ Purse c := by
    intro cell hcell
    have hcut : cutL (ns.map D.int) none (some 5) = (ns.take 5).map D.int := by
      rw [show (5 : Int) = ((5 : Nat) : Int) from rfl, cut_take, List.map_take]
    have hl : okN (((ns.take 5).map D.int).length + 1) = true := okN_of (by simp; omega)
    have happ : (ns.take 5).map D.int ++ [D.int cell] = (ns.take 5 ++ [cell]).map D.int := by simp
    obtain ⟨sd', o', g1, g2, g3, g4⟩ := loop (ns.take 5 ++ [cell]) cell (907 + (k : Nat)) none (by omega) (by omega)
    have g3 := g3 (by simp)
    have hh := hcell none none
    generalize hE : (E.ife (.cmp .Lt ltD (.var 1) (.bc "len" (f1 lenD) (.cons (.var 0) .nil))) (.idx ixD (.var 0) (.var 1)) (.bin .Mult mulD (.cst (.int 6151)) (.bin .Add addD (.var 1) (.cst (.int 5))))) = ee at hh
    have hp : powD (.int 10) (.int 18) = some (.int 1000000000000000000) := rfl
    by_cases hc : 1000000000000000000 ≤ (if cell < 0 then -cell else cell)
    · refine ⟨.lst [.int (if cell < 0 then -cell else cell), .int sd'], ?_, _, _, rfl, by split <;> omega, g1, g3⟩
      unfold m_law_purse ir_law_purse
      rw [hE]
      simp only [EVZ, EVY, List.replicate, ↓reduceIte, Nat.reduceAdd, Nat.reduceSub, dd_lnbor, dd_lnown, dd_lnbrw, hh, addD, slD, hcut, hl, happ, g4, absD, hp, hc, decide_true, decide_false]
    · refine ⟨.lst [.int 0, .int sd'], ?_, _, _, rfl, by omega, g1, g3⟩
      unfold m_law_purse ir_law_purse
      rw [hE]
      simp only [EVZ, EVY, List.replicate, ↓reduceIte, Nat.reduceAdd, Nat.reduceSub, dd_lnbor, dd_lnown, dd_lnbrw, hh, addD, slD, hcut, hl, happ, g4, absD, hp, hc, decide_true, decide_false]
  by_cases h : (k : Int) < (ns.length : Nat)
  · have hk' : k < ns.length := by omega
    have hx : L2.ixN ns.length ((k : Nat) : Int) = some k := by unfold L2.ixN; simp; omega
    exact main ns[k] fun o1 o2 => by simp [EVZ, EVY, List.replicate, ↓reduceIte, Nat.reduceAdd, Nat.reduceSub, dd_lnbor, dd_lnown, dd_lnbrw, ltD, lenD, h, ixD, hx, hk']
  · exact main (6151 * ((k : Nat) + 5)) fun o1 o2 => by
      have hm : (k : Int) + 5 < 18446744073709551616 := by omega
      simp [EVZ, EVY, List.replicate, ↓reduceIte, Nat.reduceAdd, Nat.reduceSub, dd_lnbor, dd_lnown, dd_lnbrw, ltD, lenD, h, addD, mulD]
end KK
set_option Elab.async false
set_option linter.all false
set_option maxRecDepth 100000
set_option maxHeartbeats 1000000
namespace DE
open PySem
/-- a comprehension over one name, without a test, that may change slots and store; I speaks of the items so far -/
theorem comp_acc {it : IE} {e : E} {x : Str} {i : Nat} {α : Type} (xs : List α) (enc : α → D) (I : List D → Rho → Store → Prop) {ρ : Rho} {S : Store}
    (hit : evI it (ρ, S) = some (xs.map enc, (ρ, S))) (hI : I [] (ρ.set i none) S) (hl : xs.length ≤ 16777216)
    (hb : ∀ acc a r s, xs[acc.length]? = some a → I acc r s → ∃ y r' s', evE e (r.set i (some (.imm (enc a))), s) = some (y, (r', s')) ∧ y.plain = true ∧ I (acc ++ [y]) (r'.set i none) s') :
    ∃ ys r' S', evF (.comp it (.nm i) .no e [(x, i)]) (ρ, S) = some (ys, (backR ρ r' [i], S')) ∧ I ys r' S' ∧ ys.length = xs.length := by
  have key : ∀ (ys : List α) (acc : List D) (r : Rho) (s : Store), (∀ k a, ys[k]? = some a → xs[acc.length + k]? = some a) → I acc r s → acc.length + ys.length ≤ 16777216 → ∃ zs r' s', compL (.nm i) (evOT .no) (evE e) [i] (ys.map enc) (r, s) acc = some (acc ++ zs, (r', s')) ∧ I (acc ++ zs) r' s' ∧ zs.length = ys.length := by
    intro ys
    induction ys with
    | nil => intro acc r s _ hi _; exact ⟨[], r, s, by simp [compL], by simpa using hi, rfl⟩
    | cons a ys ih =>
      intro acc r s hm hi hl
      obtain ⟨y, r', s', h1, h2, h4⟩ := hb acc a r s (by simpa using hm 0 a rfl) hi
      have hc : Nat.blt acc.length 16777216 = true := Nat.ble_eq_true_of_le (by rw [List.length_cons] at hl; omega)
      obtain ⟨zs, r2, s2, g1, g2, g3⟩ := ih (acc ++ [y]) (r'.set i none) s' (fun k b hk => by
        have := hm (k + 1) b (by simpa using hk)
        rw [List.length_append, List.length_singleton]
        rwa [show acc.length + (k + 1) = acc.length + 1 + k by omega] at this) h4 (by rw [List.length_append]; rw [List.length_cons] at hl; simp; omega)
      refine ⟨y :: zs, r2, s2, ?_, by simpa using g2, by simp [g3]⟩
      rw [List.map_cons]
      unfold compL
      have e1 : ctD (.nm i) (enc a) (r, s) = some (r.set i (some (.imm (enc a))), s) := rfl
      have e2 : evOT .no (r.set i (some (.imm (enc a))), s) = some (true, (r.set i (some (.imm (enc a))), s)) := rfl
      rw [e1, Option.bind_some, e2, Option.bind_some]
      simp only [if_true]
      rw [h1, Option.bind_some, h2, hc]
      simp only [Bool.and_self, if_true, wipe1]
      rw [g1]
      simp
  obtain ⟨zs, r', s', g1, g2, g3⟩ := key xs [] (ρ.set i none) S (fun k a h => by simpa using h) hI (by simpa using hl)
  refine ⟨zs, r', s', ?_, by simpa using g2, g3⟩
  show fComp (evI it) (.nm i) (evOT .no) (evE e) [i] (ρ, S) = _
  unfold fComp
  rw [hit, Option.bind_some, wipe1, g1]
  simp
theorem evI_rng {e : E} {z : Z} {m : Nat} (h : evE e z = some (.int (m : Nat), z)) (hm : m ≤ 1000000000) : evI (.rg1 e) z = some ((List.range m).map (fun i => D.int (i : Nat)), z) := by
  rw [I_rg1, h, Option.bind_some]
  show rg1B z (.int (m : Nat)) = _
  rw [rg1_int, bigOk_of (by omega) (by omega)]
  simp [rng_map]
end DE
namespace KK
open PySem DE
theorem ix_t0 {l : List D} {d : D} : ixD (.tup (d :: l)) (.int 0) = some d := ix_tup (l := d :: l) (k := 0) (by simp)
theorem ix_t1 {l : List D} {c d : D} : ixD (.tup (c :: d :: l)) (.int 1) = some d := ix_tup (l := c :: d :: l) (k := 1) (by simp)
theorem dpt_str {n : Nat} {s : List Nat} : dpt n (.str s) = true := by cases n <;> rfl
def enI (o : List Nat) : List D := o.map fun k => D.int (k : Nat)
end KK
set_option Elab.async false
set_option linter.all false
set_option maxRecDepth 100000
set_option maxHeartbeats 1000000
namespace KK
open PySem DE
end KK
set_option Elab.async false
set_option linter.all false
set_option maxRecDepth 100000
set_option maxHeartbeats 1000000
namespace KK
open PySem DE
theorem enI_len (o : List Nat) : (enI o).length = o.length := by simp [enI]
end KK
set_option Elab.async false
set_option linter.all false
set_option maxRecDepth 100000
set_option maxHeartbeats 1000000
namespace KK
open PySem DE
def bookD (L R : List (List Nat)) : D := .ins 0 [(4, .str (text L R)), (5, .tup (L.map D.str)), (6, .tup (R.map D.str))]
end KK
set_option Elab.async false
set_option linter.all false
set_option maxRecDepth 100000
set_option maxHeartbeats 1000000
namespace KK
open PySem DE
def enT (o : List Nat) : D := .tup (enI o)
theorem dd_plT {o : List Nat} : (enT o).plain = true := rfl
theorem dd_rdT {z : Z} {o : List Nat} : rd z (enT o) = some (enT o) := rfl
theorem dd_lnT {z : Z} {o : List Nat} : lendD z (enT o) = some (enT o) := rfl
theorem dd_dvT {o : List Nat} : toDV (enT o) = .imm (enT o) := rfl
theorem dd_itT {o : List Nat} : itD (enT o) = some (enI o) := rfl
theorem dd_isT {o : List Nat} : itemsOf (enT o) = some (enI o) := rfl
theorem dd_tyT {o : List Nat} : isB "tuple" (enT o) = some true := rfl
theorem dd_lenT {o : List Nat} : lenD (enT o) = some (.int (o.length : Nat)) := by
  show some (D.int ((enI o).length : Nat)) = _
  rw [enI_len]
theorem dd_esT {z : Z} {o : List Nat} : escD (enT o) z = some (enT o, z) := rfl
theorem dd_tpT {o : List Nat} : tupleD (enT o) = some (enT o) := rfl
theorem dd_lsT {o : List Nat} : listD (enT o) = some (enI o) := rfl
theorem dd_plB {L R : List (List Nat)} : (bookD L R).plain = true := rfl
theorem dd_rdB {z : Z} {L R : List (List Nat)} : rd z (bookD L R) = some (bookD L R) := rfl
theorem dd_lnB {z : Z} {L R : List (List Nat)} : lendD z (bookD L R) = some (bookD L R) := rfl
theorem dd_dvB {L R : List (List Nat)} : toDV (bookD L R) = .imm (bookD L R) := rfl
theorem dd_icB {L R : List (List Nat)} : isC 0 (bookD L R) = some true := rfl
theorem dd_f4B {z : Z} {L R : List (List Nat)} : fldOf z 4 (bookD L R) = some (.str (text L R)) := rfl
theorem dd_f5B {z : Z} {L R : List (List Nat)} : fldOf z 5 (bookD L R) = some (.tup (L.map D.str)) := rfl
theorem dd_f6B {z : Z} {L R : List (List Nat)} : fldOf z 6 (bookD L R) = some (.tup (R.map D.str)) := rfl
end KK
set_option Elab.async false
set_option linter.all false
set_option maxRecDepth 100000
set_option maxHeartbeats 1000000
namespace KK
open PySem DE
end KK
set_option Elab.async false
set_option linter.all false
set_option maxRecDepth 100000
set_option maxHeartbeats 1000000
namespace KK
open PySem DE
end KK
set_option Elab.async false
set_option linter.all false
set_option maxRecDepth 100000
set_option maxHeartbeats 1000000
namespace KK
open PySem DE
end KK
set_option Elab.async false
set_option linter.all false
set_option maxRecDepth 100000
set_option maxHeartbeats 1000000
namespace KK
open PySem DE
theorem eqB_refl : ∀ (n : Nat) (d : D), dpt n d = true → eqB d d = true := by
  have hl : ∀ (n : Nat), (∀ d, dpt n d = true → eqB d d = true) → ∀ ds : List D, ds.all (dpt n) = true → eqBL ds ds = true := by
    intro n ih ds
    induction ds with
    | nil => intro _; simp [eqBL]
    | cons d ds ihd =>
      intro h
      rw [List.all_cons, Bool.and_eq_true] at h
      simp only [eqBL, ih d h.1, ihd h.2, Bool.and_self]
  intro n
  induction n with
  | zero => intro d h; cases d <;> first | (cases h; done) | simp [eqB]
  | succ n ih =>
    intro d h
    cases d with
    | lst ds => simp only [eqB]; exact hl n ih ds h
    | tup ds => simp only [eqB]; exact hl n ih ds h
    | _ => first | (cases h; done) | simp [eqB]
theorem eq_self {d : D} (h : shp d = true) : eqD d d = some (.bl true) := by
  unfold eqD
  rw [h, eqB_refl 32 d h]
  rfl
theorem ne_self {d : D} (h : shp d = true) : neD d d = some (.bl false) := by
  unfold neD
  rw [eq_self h]
  rfl
theorem Cl.pc {p : Store} {c : MO} (h : Cl p) (g : Purse c) : Cl (p ++ [c]) := h.app (Cl.one g)
/-- how a law over purses ends: R is its right, the count of purses is at least two and at most top -/
theorem spots {n top : Nat} (h : 2 ≤ top) : ∃ m : Nat, m ≤ top ∧ (if (if (top : Int) < (n : Nat) then (top : Int) else (n : Nat)) > 2 then (if (top : Int) < (n : Nat) then (top : Int) else (n : Nat)) else 2) = (m : Nat) := by
  by_cases h1 : (top : Int) < (n : Nat)
  · rw [if_pos h1]
    by_cases h2 : (top : Int) > 2
    · rw [if_pos h2]; exact ⟨top, Nat.le_refl _, rfl⟩
    · rw [if_neg h2]; exact ⟨2, h, rfl⟩
  · rw [if_neg h1]
    by_cases h2 : ((n : Nat) : Int) > 2
    · rw [if_pos h2]; exact ⟨n, by omega, rfl⟩
    · rw [if_neg h2]; exact ⟨2, h, rfl⟩
theorem all_true {l : List D} (h : ∀ x ∈ l, x = .bl true) : allD (.lst l) = some (.bl true) := by
  have e : l = (List.replicate l.length true).map D.bl := by
    rw [List.map_replicate]
    exact List.eq_replicate_iff.mpr ⟨rfl, h⟩
  rw [e, allD_map]
  simp
end KK
set_option Elab.async false
set_option linter.all false
set_option maxRecDepth 100000
set_option maxHeartbeats 1000000
namespace KK
open PySem DE
end KK
set_option Elab.async false
set_option linter.all false
set_option maxRecDepth 100000
set_option maxHeartbeats 1000000
namespace KK
open PySem DE
end KK
set_option Elab.async false
set_option linter.all false
set_option maxRecDepth 100000
set_option maxHeartbeats 1000000
namespace KK
open PySem DE
end KK
set_option Elab.async false
set_option linter.all false
set_option maxRecDepth 100000
set_option maxHeartbeats 1000000
namespace KK
open PySem DE
end KK
set_option Elab.async false
set_option linter.all false
set_option maxRecDepth 100000
set_option maxHeartbeats 1000000
namespace KK
open PySem DE
end KK
set_option Elab.async false
set_option linter.all false
set_option maxRecDepth 100000
set_option maxHeartbeats 1000000
namespace KK
open PySem DE
end KK
set_option Elab.async false
set_option linter.all false
set_option maxRecDepth 100000
set_option maxHeartbeats 1000000
namespace KK
open PySem DE
end KK
set_option Elab.async false
set_option linter.all false
set_option maxRecDepth 100000
set_option maxHeartbeats 1000000
namespace KK
open PySem DE
end KK
set_option Elab.async false
set_option linter.all false
set_option maxRecDepth 100000
set_option maxHeartbeats 1000000
namespace KK
open PySem DE
def waysM (ls : D) (m e u : Nat) : MO := .ins 1 [(6, ls), (7, .int (m : Nat)), (10, .han e), (11, .han u)]
end KK
set_option Elab.async false
set_option linter.all false
set_option maxRecDepth 100000
set_option maxHeartbeats 1000000
namespace KK
open PySem DE
end KK
set_option Elab.async false
set_option linter.all false
set_option maxRecDepth 100000
set_option maxHeartbeats 2000000
namespace KK
open PySem DE
end KK
namespace DE
open PySem
end DE
set_option Elab.async false
set_option linter.all false
set_option maxRecDepth 100000
set_option maxHeartbeats 2000000
namespace KK
open PySem DE
end KK
set_option Elab.async false
set_option linter.all false
set_option maxRecDepth 100000
set_option maxHeartbeats 2000000
namespace KK
open PySem DE
end KK
set_option Elab.async false
set_option linter.all false
set_option maxRecDepth 100000
set_option maxHeartbeats 1000000
namespace KK
open PySem DE
def cut (A : List Nat) (r : Nat) : List Nat := A.filter fun k => !decide (k = r)
end KK
set_option Elab.async false
set_option linter.all false
set_option maxRecDepth 100000
set_option maxHeartbeats 2000000
namespace KK
open PySem DE
theorem ne_ii {a b : Nat} : neD (.int (a : Nat)) (.int (b : Nat)) = some (.bl (!decide (a = b))) := by
  have : decide (((a : Nat) : Int) = ((b : Nat) : Int)) = decide (a = b) := by rw [decide_eq_decide]; omega
  have h : neD (.int (a : Nat)) (.int (b : Nat)) = some (.bl (!decide (((a : Nat) : Int) = ((b : Nat) : Int)))) := by rfl
  rw [h, this]
end KK
set_option Elab.async false
set_option linter.all false
set_option maxRecDepth 100000
set_option maxHeartbeats 2000000
namespace KK
open PySem DE
end KK
set_option Elab.async false
set_option linter.all false
set_option maxRecDepth 100000
set_option maxHeartbeats 2000000
namespace KK
open PySem DE
end KK
set_option Elab.async false
set_option linter.all false
set_option maxRecDepth 100000
set_option maxHeartbeats 1000000
namespace KK
open PySem DE
end KK
set_option Elab.async false
set_option linter.all false
set_option maxRecDepth 100000
set_option maxHeartbeats 2000000
namespace KK
open PySem DE
end KK
set_option Elab.async false
set_option linter.all false
set_option maxRecDepth 100000
set_option maxHeartbeats 1000000
namespace KK
open PySem DE
def subL (a b : List Nat) : Bool := a.all fun k => decide (k ∈ b)
structure GoI (sv : List Nat → Bool) (A acc : List (List Nat)) : Prop where
  mem : ∀ l ∈ acc, l ∈ A ∧ sv l = true
  all : ∀ X ∈ A, sv X = true → ∃ l ∈ acc, subL l X = true
  min : ∀ l ∈ acc, ∃ A1 B1, A = A1 ++ l :: B1 ∧ ∀ X ∈ A1, sv X = true → subL X l = false
end KK
set_option Elab.async false
set_option linter.all false
set_option maxRecDepth 100000
set_option maxHeartbeats 1000000
namespace DE
open PySem
def kOkL (x : XR × Z) : Option (D × Z) := match x.1 with
  | .ok d => some (d, x.2)
  | .ex _ _ => none
theorem dd_okL {d : D} {z : Z} : kOkL (.ok d, z) = some (d, z) := rfl
theorem dd_xeL {a : XE} {z : Z} : evE (XE.e a) z = (a.sem z).bind kOkL := rfl
def kOkP (x : D × Z) : XR × Z := (.ok x.1, x.2)
theorem dd_okP {d : D} {z : Z} : kOkP (d, z) = (.ok d, z) := rfl
def kLstP (x : List D × Z) : XR × Z := (.ok (.lst x.1), x.2)
theorem dd_lstP {l : List D} {z : Z} : kLstP (l, z) = (.ok (.lst l), z) := rfl
theorem dd_compO {i : Nat} {ct : CT} {t : Oe} {el : E} {own : List (Str × Nat)} {z : Z} : (XE.compO i ct t el own).sem z = (fCompO i ct (evOT t) (evE el) (own.map (·.2)) z).map kLstP := by
  show ((fCompO i ct (evOT t) (evE el) (own.map (·.2)) z).map _).map _ = _
  cases fCompO i ct (evOT t) (evE el) (own.map (·.2)) z <;> rfl
theorem dd_callL {t : CT3} {cl : List (Str × PySem.Addr)} {x : Str} {n : Nat} {g : Fn} {es : Es} {z : Z} : (XE.callL t cl x n g es).sem z = (fCallL (ctF t) cl n g (evEs es) z).map kOkP := rfl
/-- the call of what is lent, behind its arguments -/
def kcl (cg : CgT) (c d : D) (z : Z) : Option (D × Z) := match c with
  | .clc k _ caps => (cg k).bind fun ng => (lendD z d).bind fun d' => if 1 = ng.1 then (ng.2 caps [d'] z.2).map fun r => (r.1, (z.1, r.2)) else none
  | _ => none
def kClc2 (cg : CgT) (c : D) (y : D × Z) : Option (D × Z) := kcl cg c y.1 y.2
def kClc (cg : CgT) (b : Ev) (x : D × Z) : Option (D × Z) := (b x.2).bind (kClc2 cg x.1)
theorem dd_kClc {cg : CgT} {b : Ev} {c : D} {z : Z} : kClc cg b (c, z) = (b z).bind (kClc2 cg c) := rfl
theorem dd_kClc2 {cg : CgT} {c d : D} {z : Z} : kClc2 cg c (d, z) = kcl cg c d z := rfl
theorem dd_semClc {cg : CgT} {a b : Ev} {z : Z} : semClc cg [a, b] z = (a z).bind (kClc cg b) := by
  show ((a z).bind fun x => match x.1 with
    | .clc k _ caps => clcGo cg ([b].foldr fCons fNil) k caps x.2
    | _ => none) = _
  cases a z with
  | none => rfl
  | some x =>
    obtain ⟨c, z1⟩ := x
    rw [Option.bind_some, Option.bind_some, dd_kClc]
    have e1 : ([b].foldr fCons fNil) z1 = (b z1).map fun y => ([y.1], y.2) := by
      show fCons b fNil z1 = _
      unfold fCons fNil
      cases b z1 <;> rfl
    cases c with
    | clc k cs caps =>
      show clcGo cg ([b].foldr fCons fNil) k caps z1 = _
      unfold clcGo
      rw [e1]
      cases hb : b z1 with
      | none => cases cg k <;> rfl
      | some y =>
        obtain ⟨d, z2⟩ := y
        rw [Option.map_some, Option.bind_some, dd_kClc2]
        show _ = (cg k).bind _
        cases cg k with
        | none => rfl
        | some ng =>
          rw [Option.bind_some, Option.bind_some, Option.bind_some]
          show ((lendD z2 d).bind fun x => (lendAll z2 []).map fun r => x :: r).bind _ = _
          cases lendD z2 d with
          | none => rfl
          | some d' => rfl
    | _ => cases b z1 <;> rfl
theorem dd_ndef {i k : Nat} {cl : List (Str × PySem.Addr)} {fs : List Ev} {z : Z} : semNdef i k cl fs z = some (.nx, (z.1.set i (some (.imm (.clo k cl))), z.2)) := rfl
theorem dd_tvC {k : Nat} {cs : List (Str × PySem.Addr)} {caps : List D} : toDV (.clc k cs caps) = .imm (.clc k cs caps) := rfl
theorem dd_plC {k : Nat} {cs : List (Str × PySem.Addr)} {caps : List D} : (D.clc k cs caps).plain = true := rfl
theorem dd_plO {k : Nat} {cs : List (Str × PySem.Addr)} : (D.clo k cs).plain = true := rfl
end DE
set_option Elab.async false
set_option linter.all false
set_option maxRecDepth 100000
set_option maxHeartbeats 2000000
namespace KK
open PySem DE
end KK
set_option Elab.async false
set_option linter.all false
set_option maxRecDepth 100000
set_option maxHeartbeats 2000000
namespace KK
open PySem DE
def ti (a s k : Nat) : Nat := (a + (1 + s) * k) % 17
def enF (q : List Nat × List Nat) : D := .tup [.str q.1, enT q.2]
theorem dd_plF {q : List Nat × List Nat} : (enF q).plain = true := rfl
theorem dd_rdF {z : Z} {q : List Nat × List Nat} : rd z (enF q) = some (enF q) := rfl
theorem dd_lnF {z : Z} {q : List Nat × List Nat} : lendD z (enF q) = some (enF q) := rfl
theorem dd_dvF {q : List Nat × List Nat} : toDV (enF q) = .imm (enF q) := rfl
theorem dd_isF {q : List Nat × List Nat} : itemsOf (enF q) = some [.str q.1, enT q.2] := rfl
theorem dd_i0F {q : List Nat × List Nat} : ixD (enF q) (.int 0) = some (.str q.1) := ix_t0
theorem dd_i1F {q : List Nat × List Nat} : ixD (enF q) (.int 1) = some (enT q.2) := ix_t1
end KK
set_option Elab.async false
set_option linter.all false
set_option maxRecDepth 100000
set_option maxHeartbeats 2000000
namespace KK
open PySem DE
end KK
set_option Elab.async false
set_option linter.all false
set_option maxRecDepth 100000
set_option maxHeartbeats 2000000
namespace KK
open PySem DE
theorem dd_plFn {k : Nat} : (D.fn k).plain = true := rfl
theorem dd_rdFn {z : Z} {k : Nat} : rd z (.fn k) = some (.fn k) := rfl
theorem dd_lnFn {z : Z} {k : Nat} : lendD z (.fn k) = some (.fn k) := rfl
theorem dd_dvFn {k : Nat} : toDV (.fn k) = .imm (.fn k) := rfl
theorem dd_plFt {ss : List (List Nat)} : (D.ftp ss).plain = true := rfl
theorem dd_rdFt {z : Z} {ss : List (List Nat)} : rd z (.ftp ss) = some (.ftp ss) := rfl
theorem dd_lnFt {z : Z} {ss : List (List Nat)} : lendD z (.ftp ss) = some (.ftp ss) := rfl
theorem dd_dvFt {ss : List (List Nat)} : toDV (.ftp ss) = .imm (.ftp ss) := rfl
theorem dd_leFt {ss : List (List Nat)} : lenD (.ftp ss) = some (.int ss.length) := rfl
def kTi2 (x : D) (y : D × Z) : Option (D × Z) := tiB y.2 x y.1
def kTi1 (fa : Ev) (x : D × Z) : Option (D × Z) := (fa x.2).bind (kTi2 x.1)
theorem dd_tix {fo fa : Ev} {z : Z} : semTidx [fo, fa] z = (fo z).bind (kTi1 fa) := rfl
theorem dd_ti1 {fa : Ev} {x : D × Z} : kTi1 fa x = (fa x.2).bind (kTi2 x.1) := rfl
theorem dd_ti2 {x : D} {y : D × Z} : kTi2 x y = tiB y.2 x y.1 := rfl
structure Dg (x : Nat) : Prop where
  l1 : 1 ≤ (dg x).length
  l2 : (dg x).length ≤ 2
  d : (dg x).all (fun c => decide (c ∈ [48, 49, 50, 51, 52, 53, 54, 55, 56, 57])) = true
  z : (dg x).length = 1 ∨ (dg x).getD 0 46 ≠ 48
  i : PySem.intText? (SX.S (dg x)) = some ((x : Nat) : Int)
  s : (Nat.blt ((x : Nat) : Int).natAbs.log2 1920 && Nat.ble (strL ((x : Nat) : Int)).length 16777216) = true
def cpart (q : List Nat × List Nat) : List Nat := TL.joinL [32] (q.1 :: q.2.map dg)
def cpage (F : Fk) : List Nat := TL.joinL [59, 32] (F.map cpart)
def caseD (F : Fk) : D := .ins 2 [(4, .str (cpage F)), (12, .ftp (F.map (·.1))), (13, .tup (F.map fun q => enT q.2))]
end KK
set_option Elab.async false
set_option linter.all false
set_option maxRecDepth 100000
set_option maxHeartbeats 2000000
namespace KK
open PySem DE
theorem dd_plC {F : Fk} : (caseD F).plain = true := rfl
theorem dd_rdC {z : Z} {F : Fk} : rd z (caseD F) = some (caseD F) := rfl
theorem dd_lnC {z : Z} {F : Fk} : lendD z (caseD F) = some (caseD F) := rfl
theorem dd_dvC {F : Fk} : toDV (caseD F) = .imm (caseD F) := rfl
theorem dd_icC {F : Fk} : isC 2 (caseD F) = some true := rfl
theorem dd_f12C {z : Z} {F : Fk} : fldOf z 12 (caseD F) = some (.ftp (F.map (·.1))) := rfl
theorem dd_f13C {z : Z} {F : Fk} : fldOf z 13 (caseD F) = some (.tup (F.map fun q => enT q.2)) := rfl
end KK
set_option Elab.async false
set_option linter.all false
set_option maxRecDepth 100000
set_option maxHeartbeats 2000000
namespace KK
open PySem DE
end KK
set_option Elab.async false
set_option linter.all false
set_option maxRecDepth 100000
set_option maxHeartbeats 2000000
namespace KK
open PySem DE
end KK
set_option Elab.async false
set_option linter.all false
set_option maxRecDepth 100000
set_option maxHeartbeats 2000000
namespace KK
open PySem DE
end KK
set_option Elab.async false
set_option linter.all false
set_option maxRecDepth 100000
set_option maxHeartbeats 2000000
namespace KK
open PySem DE
end KK
set_option Elab.async false
set_option linter.all false
set_option maxRecDepth 100000
set_option maxHeartbeats 2000000
namespace KK
open PySem DE
theorem ss_nx {s : DE.S} {r : Ss} {z z' : Z} (h : evS s z = some (.nx, z')) : evSs (.cons s r) z = evSs r z' := by
  show (evS s z).bind (seqB r) = _
  rw [h]; rfl
end KK
set_option Elab.async false
set_option linter.all false
set_option maxRecDepth 100000
set_option maxHeartbeats 2000000
namespace DE
open PySem
end DE
namespace KK
open PySem DE
theorem dd_pr {t : List (Nat × Nat)} {fa : Ev} {z : Z} : semPr t [fa] z = (fa z).bind (prB t) := rfl
theorem dd_pb4 {L R : List (List Nat)} {z : Z} : prB [(0, 4)] (bookD L R, z) = some (.str (text L R), z) := rfl
theorem dd_pb5 {L R : List (List Nat)} {z : Z} : prB [(0, 5)] (bookD L R, z) = some (.tup (L.map D.str), z) := rfl
theorem dd_pb6 {L R : List (List Nat)} {z : Z} : prB [(0, 6)] (bookD L R, z) = some (.tup (R.map D.str), z) := rfl
theorem dd_pc4 {F : Fk} {z : Z} : prB [(2, 4)] (caseD F, z) = some (.str (cpage F), z) := rfl
theorem dd_pc12 {F : Fk} {z : Z} : prB [(2, 12)] (caseD F, z) = some (.ftp (F.map (·.1)), z) := rfl
theorem dd_pc13 {F : Fk} {z : Z} : prB [(2, 13)] (caseD F, z) = some (.tup (F.map fun q => enT q.2), z) := rfl
theorem dd_ift {fa : Ev} {z : Z} : semIft [fa] z = (fa z).bind ftB := rfl
theorem dd_ftb {ss : List (List Nat)} {z : Z} : ftB (.ftp ss, z) = some (ss.map D.str, z) := rfl
end KK
set_option Elab.async false
set_option linter.all false
set_option maxRecDepth 100000
set_option maxHeartbeats 2000000
namespace KK
open PySem DE
end KK
set_option Elab.async false
set_option linter.all false
set_option maxRecDepth 100000
set_option maxHeartbeats 1000000
namespace DE
open PySem
theorem dd_kHr {z : Z} {d : D} : kHr z d = (d, z) := rfl
theorem dd_fnDE {n : Nat} {b : Addr → Nat → List (Nat × D) → Ss} {a : Addr} {c : Nat} {fs : List (Nat × D)} {ds : List D} {S : Store} : fnDE n b a c fs ds S = endF (evSs (b a c fs) (some (.obj a) :: rho0 n ds, S)) := by
  unfold fnDE
  cases h : evSs (b a c fs) (some (.obj a) :: rho0 n ds, S) with
  | none => rfl
  | some x => obtain ⟨f, z⟩ := x; cases f <;> rfl
theorem dd_rhoC {n i : Nat} {a : Addr} : rhoC n (some i) a = (List.replicate n none).set i (some (.obj a)) := rfl
theorem dd_catch {n : Nat} {k : Cl} {r : List Cl} {a : Addr} {c : Nat} {fs : List (Nat × D)} {S : Store} : catchF n (k :: r) a c fs S = if k.tb c = true then endC (evSs (k.tr a c fs) (rhoC n k.sl a, S)) else catchF n r a c fs S := rfl
theorem dd_endC {d : D} {z : Z} : endC (some (.rt d, z)) = some (d, z.2) := rfl
def kCallX (n : Nat) (g : FnX) (z : Z) (ds : List D) : Option (XR × Z) := if ds.length = n then (g ds z.2).map fun r => (r.1, (z.1, r.2)) else none
def callX (n : Nat) (g : FnX) (x : List D × Z) : Option (XR × Z) := (lendAll x.2 x.1).bind (kCallX n g x.2)
theorem dd_kCallX {n : Nat} {g : FnX} {z : Z} {ds : List D} : kCallX n g z ds = if ds.length = n then (g ds z.2).map fun r => (r.1, (z.1, r.2)) else none := rfl
theorem dd_callX {n : Nat} {g : FnX} {ds : List D} {z : Z} : callX n g (ds, z) = (lendAll z ds).bind (kCallX n g z) := rfl
theorem dd_xcall {x : Str} {n : Nat} {g : FnX} {es : Es} {z : Z} : (XE.call x n g es).sem z = (evEs es z).bind (callX n g) := rfl
def kPkX (n : Nat) (g : FnX) (m : Nat) (pm : List Nat) (z : Z) (ds : List D) : Option (XR × Z) := if ds.length = m then (pick ds pm).bind (kCallX n g z) else none
def callKX (n : Nat) (g : FnX) (m : Nat) (pm : List Nat) (x : List D × Z) : Option (XR × Z) := (lendAll x.2 x.1).bind (kPkX n g m pm x.2)
theorem dd_kPkX {n : Nat} {g : FnX} {m : Nat} {pm : List Nat} {z : Z} {ds : List D} : kPkX n g m pm z ds = if ds.length = m then (pick ds pm).bind (kCallX n g z) else none := rfl
theorem dd_callKX {n : Nat} {g : FnX} {m : Nat} {pm : List Nat} {ds : List D} {z : Z} : callKX n g m pm (ds, z) = (lendAll z ds).bind (kPkX n g m pm z) := rfl
def kLfC (d : D) (y : List D × Z) : List D × Z := (d :: y.1, y.2)
theorem dd_kLfC {d : D} {l : List D} {z : Z} : kLfC d (l, z) = (d :: l, z) := rfl
def evLF : List Ev → EvA
  | [] => fun z => some ([], z)
  | f :: fs => fun z => (f z).bind fun x => (evLF fs x.2).map (kLfC x.1)
def kLf (fs : List Ev) (x : D × Z) : Option (List D × Z) := (evLF fs x.2).map (kLfC x.1)
theorem dd_kLf {fs : List Ev} {d : D} {z : Z} : kLf fs (d, z) = (evLF fs z).map (kLfC d) := rfl
theorem dd_lfN {z : Z} : evLF [] z = some ([], z) := rfl
theorem dd_lfC {f : Ev} {fs : List Ev} {z : Z} : evLF (f :: fs) z = (f z).bind (kLf fs) := rfl
theorem evLF_eq : ∀ fs : List Ev, evLF fs = fs.foldr fCons fNil
  | [] => rfl
  | f :: fs => by
    funext z
    rw [List.foldr_cons, ← evLF_eq fs]
    rfl
theorem dd_xcallK {x : Str} {ks : List Str} {n : Nat} {g : FnX} {pm : List Nat} {es : Es} {z : Z} : (XE.callK x ks n g pm es).sem z = (evLF (evL es) z).bind (callKX n g ks.length pm) := by
  show xCallK n g ks.length pm ((evL es).foldr fCons fNil) z = _
  rw [← evLF_eq]
  rfl
def kOkX (x : D × Z) : XR × Z := (.ok x.1, x.2)
theorem dd_kOkX {d : D} {z : Z} : kOkX (d, z) = (.ok d, z) := rfl
theorem dd_xpure {a : E} {z : Z} : (XE.pure a).sem z = (evE a z).map kOkX := rfl
def kOut (x : Fl × Z) : FlX × Z := (.out x.1, x.2)
theorem dd_kOut {f : Fl} {z : Z} : kOut (f, z) = (.out f, z) := rfl
theorem dd_Xpure {a : S} {z : Z} : (XS.pure a).sem z = (evS a z).map kOut := rfl
def kXexp (x : XR × Z) : FlX × Z := match x.1 with
  | .ok _ => (.out .nx, x.2)
  | .ex c fs => (.ex c fs, x.2)
theorem dd_exp_ok {d : D} {z : Z} : kXexp (.ok d, z) = (.out .nx, z) := rfl
theorem dd_exp_ex {c : Nat} {fs : List (Nat × D)} {z : Z} : kXexp (.ex c fs, z) = (.ex c fs, z) := rfl
theorem dd_Xexp {a : XE} {z : Z} : (XS.exp a).sem z = (a.sem z).map kXexp := rfl
def kXret (x : XR × Z) : Option (FlX × Z) := match x.1 with
  | .ok d => if d.plain then some (.out (.rt d), x.2) else none
  | .ex c fs => some (.ex c fs, x.2)
theorem dd_ret_ok {d : D} {z : Z} : kXret (.ok d, z) = if d.plain = true then some (.out (.rt d), z) else none := rfl
theorem dd_ret_ex {c : Nat} {fs : List (Nat × D)} {z : Z} : kXret (.ex c fs, z) = some (.ex c fs, z) := rfl
theorem dd_Xret {a : XE} {z : Z} : (XS.ret a).sem z = (a.sem z).bind kXret := rfl
def kXset (i : Nat) (x : XR × Z) : Option (FlX × Z) := match x.1 with
  | .ok d => if d.plain then some (.out .nx, (x.2.1.set i (some (.imm d)), x.2.2)) else none
  | .ex c fs => some (.ex c fs, x.2)
theorem dd_set_ok {i : Nat} {d : D} {z : Z} : kXset i (.ok d, z) = if d.plain = true then some (.out .nx, (z.1.set i (some (.imm d)), z.2)) else none := rfl
theorem dd_set_ex {i c : Nat} {fs : List (Nat × D)} {z : Z} : kXset i (.ex c fs, z) = some (.ex c fs, z) := rfl
theorem dd_Xset {i : Nat} {a : XE} {z : Z} : (XS.set i a).sem z = (a.sem z).bind (kXset i) := rfl
def kXif (a b : XSs) (x : Bool × Z) : Option (FlX × Z) := if x.1 then a.sem x.2 else b.sem x.2
theorem dd_kXif {a b : XSs} {t : Bool} {z : Z} : kXif a b (t, z) = if t = true then a.sem z else b.sem z := rfl
theorem dd_Xife {t : E} {a b : XSs} {z : Z} : (XS.ife t a b).sem z = (evT t z).bind (kXif a b) := rfl
theorem dd_Xraise0 {x : Str} {c : Nat} {z : Z} : (XS.raise0 x c).sem z = some (.ex c [], z) := rfl
def kRs (c k : Nat) (x : D × Z) : Option (FlX × Z) := if x.1.plain then some (.ex c [(k, x.1)], x.2) else none
theorem dd_kRs {c k : Nat} {d : D} {z : Z} : kRs c k (d, z) = if d.plain = true then some (.ex c [(k, d)], z) else none := rfl
theorem dd_Xraise1 {x : Str} {c k : Nat} {a : E} {z : Z} : (XS.raise1 x c k a).sem z = (evE a z).bind (kRs c k) := rfl
theorem dd_Xnil {z : Z} : XSs.nil.sem z = some (.out .nx, z) := rfl
def kXseq (b : XSs) (x : FlX × Z) : Option (FlX × Z) := match x.1 with
  | .out .nx => b.sem x.2
  | fl => some (fl, x.2)
theorem dd_Xcons {a : XS} {b : XSs} {z : Z} : (XSs.cons a b).sem z = (a.sem z).bind (kXseq b) := rfl
theorem dd_seq_nx {b : XSs} {z : Z} : kXseq b (.out .nx, z) = b.sem z := rfl
theorem dd_seq_rt {b : XSs} {d : D} {z : Z} : kXseq b (.out (.rt d), z) = some (.out (.rt d), z) := rfl
theorem dd_seq_ex {b : XSs} {c : Nat} {fs : List (Nat × D)} {z : Z} : kXseq b (.ex c fs, z) = some (.ex c fs, z) := rfl
theorem dd_Xsp {a : Ss} {z : Z} : (XSs.pure a).sem z = (evSs a z).map kOut := rfl
def endX (o : Option (FlX × Z)) : Option (XR × Store) := match o with
  | some (.out (.rt d), z) => some (.ok d, z.2)
  | some (.out .nx, z) => some (.ok .non, z.2)
  | some (.ex c fs, z) => some (.ex c fs, z.2)
  | _ => none
theorem dd_fnDX {n : Nat} {b : EvXS} {ds : List D} {S : Store} : fnDX n b ds S = endX (b (rho0 n ds, S)) := by
  unfold fnDX endX
  cases h : b (rho0 n ds, S) with
  | none => rfl
  | some x => obtain ⟨f, z⟩ := x; cases f with
    | out f => cases f <;> rfl
    | ex c fs => rfl
theorem dd_endX_rt {d : D} {z : Z} : endX (some (.out (.rt d), z)) = some (.ok d, z.2) := rfl
theorem dd_endX_nx {z : Z} : endX (some (.out .nx, z)) = some (.ok .non, z.2) := rfl
theorem dd_endX_ex {c : Nat} {fs : List (Nat × D)} {z : Z} : endX (some (.ex c fs, z)) = some (.ex c fs, z.2) := rfl
def kTe (ρ : Rho) (r : D × Store) : Option (D × Z) := if r.1.plain = true then some (r.1, (ρ, r.2)) else none
theorem dd_kTe {ρ : Rho} {d : D} {S : Store} : kTe ρ (d, S) = if d.plain = true then some (d, (ρ, S)) else none := rfl
def kTell (isx : Nat → Bool) (rest : D → Store → Option (D × Store)) (cF : Nat → List (Nat × D) → Store → Option (D × Store)) (x : XR × Z) : Option (D × Z) := match x.1 with
  | .ok d => if d.plain = true then (rest d x.2.2).bind (kTe x.2.1) else none
  | .ex c fs => if isx c = true then (cF c fs x.2.2).bind (kTe x.2.1) else none
theorem dd_tell_ok {isx : Nat → Bool} {rest : D → Store → Option (D × Store)} {cF : Nat → List (Nat × D) → Store → Option (D × Store)} {d : D} {z : Z} : kTell isx rest cF (.ok d, z) = if d.plain = true then (rest d z.2).bind (kTe z.1) else none := rfl
theorem dd_tell_ex {isx : Nat → Bool} {rest : D → Store → Option (D × Store)} {cF : Nat → List (Nat × D) → Store → Option (D × Store)} {c : Nat} {fs : List (Nat × D)} {z : Z} : kTell isx rest cF (.ex c fs, z) = if isx c = true then (cF c fs z.2).bind (kTe z.1) else none := rfl
theorem dd_tellE {x : Str} {isx : Nat → Bool} {rest : D → Store → Option (D × Store)} {cF : Nat → List (Nat × D) → Store → Option (D × Store)} {a : XE} {z : Z} : evE (tellE x isx rest cF a) z = (a.sem z).bind (kTell isx rest cF) := by
  show semTell isx rest cF a.sem z = _
  unfold semTell
  cases a.sem z with
  | none => rfl
  | some x => obtain ⟨r, z⟩ := x; cases r <;> rfl
theorem dd_restS {n i : Nat} {rs : Ss} {d : D} {S : Store} : restF n rs (.set i) d S = if d.plain = true then endC (evSs rs ((List.replicate n none).set i (some (.imm d)), S)) else none := rfl
theorem dd_restE {n : Nat} {rs : Ss} {d : D} {S : Store} : restF n rs .exp d S = endC (evSs rs (List.replicate n none, S)) := rfl
theorem dd_restR {n : Nat} {rs : Ss} {d : D} {S : Store} : restF n rs .ret d S = if d.plain = true then some (d, S) else none := rfl
end DE
set_option Elab.async false
set_option linter.all false
set_option maxRecDepth 100000
set_option maxHeartbeats 2000000
namespace KK
open PySem DE
theorem dd_itp0 {z : Z} : semItp [] z = some (.itp [], z) := rfl
theorem dd_itp1 {fa : Ev} {z : Z} : semItp [fa] z = (fa z).bind kItp := rfl
theorem dd_itpk {i : Int} {z : Z} : kItp (.int i, z) = some (.itp [i], z) := rfl
theorem dd_tidI {fo fa : Ev} {z : Z} : semTidI [fo, fa] z = (fo z).bind (DE.kTi1 fa) := rfl
theorem dd_tid1 {fa : Ev} {x : D} {z : Z} : DE.kTi1 fa (x, z) = (fa z).bind (DE.kTi2 x) := rfl
theorem dd_tid2 {x y : D} {z : Z} : DE.kTi2 x (y, z) = tiI z x y := rfl
def itN (o : List Nat) : D := .itp (o.map fun k => ((k : Nat) : Int))
theorem dd_itr {o : List Nat} {z : Z} : rd z (itN o) = some (itN o) := rfl
theorem dd_itr2 {ns : List Int} {z : Z} : rd z (.itp ns) = some (.itp ns) := rfl
theorem dd_itl {o : List Nat} {z : Z} : lendD z (itN o) = some (itN o) := rfl
theorem dd_itv {o : List Nat} : toDV (itN o) = .imm (itN o) := rfl
theorem dd_itpl {o : List Nat} : (itN o).plain = true := rfl
end KK
set_option Elab.async false
set_option linter.all false
set_option maxRecDepth 100000
set_option maxHeartbeats 4000000
namespace KK
open PySem DE
end KK
set_option Elab.async false
set_option linter.all false
set_option maxRecDepth 100000
set_option maxHeartbeats 2000000
namespace KK
open PySem DE
end KK
set_option Elab.async false
set_option linter.all false
set_option maxRecDepth 100000
set_option maxHeartbeats 2000000
namespace KK
open PySem DE
end KK
set_option Elab.async false
set_option linter.all false
set_option maxRecDepth 100000
set_option maxHeartbeats 2000000
namespace KK
open PySem DE
end KK
set_option Elab.async false
set_option linter.all false
set_option maxRecDepth 100000
set_option maxHeartbeats 2000000
namespace KK
open PySem DE
end KK
set_option Elab.async false
set_option linter.all false
set_option maxRecDepth 100000
set_option maxHeartbeats 2000000
namespace KK
open PySem DE
theorem Ps.pc {S : Store} (h : Ps S) {c : MO} (hc : Purse c) : Ps (S ++ [c]) := fun x hx => (List.mem_append.mp hx).elim (h x) fun q => by rw [List.mem_singleton.mp q]; exact hc
end KK
set_option Elab.async false
set_option linter.all false
set_option maxRecDepth 100000
set_option maxHeartbeats 4000000
namespace KK
open PySem DE
/-- the values that are drawn -/
def xs01 : List D := [.non, .bl true, .int 0, .int (-1000000000000000000000000000000), .str [], .str [97], .str [97, 32, 98, 58, 32, 43, 45], .tup [], .tup [.str [97], .tup [.str [98], .int 1]], .lst [], .lst [.lst [.str [97]]], .dic [], .dic [(.inr ⟨#[97]⟩, .tup [])]]
def e01 : E := match ir_law_thing_v1 with
  | .cons (.set _ e) _ => e
  | _ => .cst .non
theorem ir_thing01 : ir_law_thing_v1 = .cons (.set 1 e01) (.cons (.ret (.idx ixD (.var 1) (.call "_law_draw" 2 m_law_draw (.cons (.var 0) (.cons (.cst (.int 13)) .nil))))) .nil) := rfl
theorem fnD_key1 (n : Nat) (b : Ss) (d : D) (S : Store) : fnD (n + 1) b [d] S = endF (evSs b (some (toDV d) :: List.replicate n none, S)) := rfl
theorem e01_eq (n : Nat) (S : Store) : evS (.set 1 e01) ([some (.imm (.han n)), none], S) = some (.nx, ([some (.imm (.han n)), some (.imm (.lst xs01))], S)) := by kernel_rfl
theorem ix01 {d : Nat} (hd : d < 13) : ixD (.lst xs01) (.int (d : Nat)) = some (xs01.getD d .non) := by
  match d, hd with
  | 0, _ => rfl
  | 1, _ => rfl
  | 2, _ => rfl
  | 3, _ => rfl
  | 4, _ => rfl
  | 5, _ => rfl
  | 6, _ => rfl
  | 7, _ => rfl
  | 8, _ => rfl
  | 9, _ => rfl
  | 10, _ => rfl
  | 11, _ => rfl
  | 12, _ => rfl
  | k + 13, hk => omega
/-- what is plain enough has its text -/
theorem reprYL_some {ds : List D} (h1 : pyR (.lst ds) = some (toPy (.lst ds))) (h : (shp (.lst ds) && Nat.ble (cost2 (.lst ds)) 150000) = true) (h3 : Nat.ble (toPy (.lst ds)).depth 32 = true) : (reprYL (.lst ds)).isSome = true := by
  rw [Bool.and_eq_true] at h
  have hD : isD (.lst ds) = true := (dpt_ok _ _ h.1).1
  obtain ⟨c1, c2, c3, c4⟩ := cost2_ok (.lst ds) hD (Nat.le_of_ble_eq_true h.2)
  have hc := Nat.le_of_ble_eq_true h.2
  have hdd := Nat.le_of_ble_eq_true h3
  have hlay : PyData.layable0 (toPy (.lst ds)) = true := by
    unfold PyData.layable0
    simp only [c1, Bool.true_and, Bool.and_eq_true, decide_eq_true_eq]
    exact ⟨by omega, by omega⟩
  have hlen := PyData.shown_le 101 (by decide) (toPy (.lst ds)) (PyData.leavesShort_of_canLay0 101 (toPy (.lst ds)) c1 c3)
  have hm : (toPy (.lst ds)).shown.length ≤ 16777216 := by
    have : (101 + 2) * (toPy (.lst ds)).weight ≤ (101 + 2) * 150000 := Nat.mul_le_mul_left _ (by omega)
    omega
  show (reprYD (.lst ds)).isSome = true
  unfold reprYD
  rw [h1, Option.bind_some, c4, h3, Nat.ble_eq_true_of_le hm]
  rfl
end KK
set_option Elab.async false
set_option linter.all false
set_option maxRecDepth 100000
set_option maxHeartbeats 4000000
namespace KK
open PySem DE
def t01 : Ss := match ir_law_right with
  | .cons _ t => t
  | _ => .nil
def hd01 : Ss → DE.S
  | .cons s _ => s
  | _ => .pass
def tl01 : Ss → Ss
  | .cons _ t => t
  | _ => .nil
def s01 : Nat → DE.S
  | 0 => hd01 t01
  | 1 => hd01 (tl01 t01)
  | 2 => hd01 (tl01 (tl01 t01))
  | 3 => hd01 (tl01 (tl01 (tl01 t01)))
  | 4 => hd01 (tl01 (tl01 (tl01 (tl01 t01))))
  | _ => .pass
def u01 : Ss := tl01 (tl01 (tl01 (tl01 (tl01 t01))))
theorem ir_right01 : ir_law_right = .cons (.set 1 (.call "_law_thing" 1 m_law_thing_v1 (.cons (.var 0) .nil))) t01 := rfl
theorem t01_eq : t01 = .cons (s01 0) (.cons (s01 1) (.cons (s01 2) (.cons (s01 3) (.cons (s01 4) u01)))) := rfl
def p01 (x : D) : List D := ([(5, 0), (6, 0), (7, 0), (8, 0), (9, 0), (10, 0), (11, 0), (12, 0), (13, 0), (14, 0), (15, 0), (16, 0), (17, 1), (18, 1), (19, 1)] : List (Nat × Nat)).map fun q => .tup [.exc q.1 [(q.2, x)], .exc q.1 [(q.2, x)]]
def q01 (x : D) : List D := [.tup [.exc 20 [], .exc 20 []], .tup [.exc 21 [(2, x)], .exc 21 [(2, x)]], .tup [.exc 22 [(3, .int 1), (1, x)], .exc 22 [(3, .int 1), (1, x)]], .tup [.exc 23 [(1, x)], .exc 23 [(1, x)]], .tup [.exc 24 [], .exc 24 []]]
def kp01 (n : Nat) (x : D) : D := .lst (List.replicate n (.lst [x, x]))
abbrev r01 (n : Nat) (x : D) (o2 : Option DV) : Rho := [some (.imm (.han n)), some (.imm x), o2, some (.imm (.lst (p01 x))), some (.imm (.lst (q01 x))), none, none, none, none, none]
theorem u01_eq (n : Nat) (x : D) (o2 : Option DV) (S : Store) : endF (evSs u01 (r01 n x o2, S)) = some (.bl true, S) := by kernel_rfl
theorem a01_0 (n : Nat) (S : Store) : evS (s01 0) ([some (.imm (.han n)), some (.imm (.non)), none, none, none, none, none, none, none, none], S) = some (.nx, (r01 n (.non) none, S)) := by kernel_rfl
theorem b01_0 (n : Nat) (S : Store) : evS (s01 1) (r01 n (.non) none, S) = some (.nx, (r01 n (.non) (some (.imm (kp01 12 (.non)))), S)) := by kernel_rfl
theorem c01_0 (n : Nat) (S : Store) : evS (s01 2) (r01 n (.non) (some (.imm (kp01 12 (.non)))), S) = some (.nx, (r01 n (.non) (some (.imm (kp01 17 (.non)))), S)) := by kernel_rfl
theorem d01_0 (n : Nat) (S : Store) : evS (s01 3) (r01 n (.non) (some (.imm (kp01 17 (.non)))), S) = some (.nx, (r01 n (.non) (some (.imm (kp01 18 (.non)))), S)) := by kernel_rfl
theorem e01_0 : (reprYL (kp01 18 (.non))).isSome = true := reprYL_some (by kernel_rfl) (by kernel_rfl) (by kernel_rfl)
theorem a01_1 (n : Nat) (S : Store) : evS (s01 0) ([some (.imm (.han n)), some (.imm (.bl true)), none, none, none, none, none, none, none, none], S) = some (.nx, (r01 n (.bl true) none, S)) := by kernel_rfl
theorem b01_1 (n : Nat) (S : Store) : evS (s01 1) (r01 n (.bl true) none, S) = some (.nx, (r01 n (.bl true) (some (.imm (kp01 12 (.bl true)))), S)) := by kernel_rfl
theorem c01_1 (n : Nat) (S : Store) : evS (s01 2) (r01 n (.bl true) (some (.imm (kp01 12 (.bl true)))), S) = some (.nx, (r01 n (.bl true) (some (.imm (kp01 17 (.bl true)))), S)) := by kernel_rfl
theorem d01_1 (n : Nat) (S : Store) : evS (s01 3) (r01 n (.bl true) (some (.imm (kp01 17 (.bl true)))), S) = some (.nx, (r01 n (.bl true) (some (.imm (kp01 18 (.bl true)))), S)) := by kernel_rfl
theorem e01_1 : (reprYL (kp01 18 (.bl true))).isSome = true := reprYL_some (by kernel_rfl) (by kernel_rfl) (by kernel_rfl)
theorem a01_2 (n : Nat) (S : Store) : evS (s01 0) ([some (.imm (.han n)), some (.imm (.int 0)), none, none, none, none, none, none, none, none], S) = some (.nx, (r01 n (.int 0) none, S)) := by kernel_rfl
theorem b01_2 (n : Nat) (S : Store) : evS (s01 1) (r01 n (.int 0) none, S) = some (.nx, (r01 n (.int 0) (some (.imm (kp01 12 (.int 0)))), S)) := by kernel_rfl
theorem c01_2 (n : Nat) (S : Store) : evS (s01 2) (r01 n (.int 0) (some (.imm (kp01 12 (.int 0)))), S) = some (.nx, (r01 n (.int 0) (some (.imm (kp01 17 (.int 0)))), S)) := by kernel_rfl
theorem d01_2 (n : Nat) (S : Store) : evS (s01 3) (r01 n (.int 0) (some (.imm (kp01 17 (.int 0)))), S) = some (.nx, (r01 n (.int 0) (some (.imm (kp01 18 (.int 0)))), S)) := by kernel_rfl
theorem e01_2 : (reprYL (kp01 18 (.int 0))).isSome = true := reprYL_some (by kernel_rfl) (by kernel_rfl) (by kernel_rfl)
theorem a01_3 (n : Nat) (S : Store) : evS (s01 0) ([some (.imm (.han n)), some (.imm (.int (-1000000000000000000000000000000))), none, none, none, none, none, none, none, none], S) = some (.nx, (r01 n (.int (-1000000000000000000000000000000)) none, S)) := by kernel_rfl
theorem b01_3 (n : Nat) (S : Store) : evS (s01 1) (r01 n (.int (-1000000000000000000000000000000)) none, S) = some (.nx, (r01 n (.int (-1000000000000000000000000000000)) (some (.imm (kp01 12 (.int (-1000000000000000000000000000000))))), S)) := by kernel_rfl
theorem c01_3 (n : Nat) (S : Store) : evS (s01 2) (r01 n (.int (-1000000000000000000000000000000)) (some (.imm (kp01 12 (.int (-1000000000000000000000000000000))))), S) = some (.nx, (r01 n (.int (-1000000000000000000000000000000)) (some (.imm (kp01 17 (.int (-1000000000000000000000000000000))))), S)) := by kernel_rfl
theorem d01_3 (n : Nat) (S : Store) : evS (s01 3) (r01 n (.int (-1000000000000000000000000000000)) (some (.imm (kp01 17 (.int (-1000000000000000000000000000000))))), S) = some (.nx, (r01 n (.int (-1000000000000000000000000000000)) (some (.imm (kp01 18 (.int (-1000000000000000000000000000000))))), S)) := by kernel_rfl
theorem e01_3 : (reprYL (kp01 18 (.int (-1000000000000000000000000000000)))).isSome = true := reprYL_some (by kernel_rfl) (by kernel_rfl) (by kernel_rfl)
theorem a01_4 (n : Nat) (S : Store) : evS (s01 0) ([some (.imm (.han n)), some (.imm (.str [])), none, none, none, none, none, none, none, none], S) = some (.nx, (r01 n (.str []) none, S)) := by kernel_rfl
theorem b01_4 (n : Nat) (S : Store) : evS (s01 1) (r01 n (.str []) none, S) = some (.nx, (r01 n (.str []) (some (.imm (kp01 12 (.str [])))), S)) := by kernel_rfl
theorem c01_4 (n : Nat) (S : Store) : evS (s01 2) (r01 n (.str []) (some (.imm (kp01 12 (.str [])))), S) = some (.nx, (r01 n (.str []) (some (.imm (kp01 17 (.str [])))), S)) := by kernel_rfl
theorem d01_4 (n : Nat) (S : Store) : evS (s01 3) (r01 n (.str []) (some (.imm (kp01 17 (.str [])))), S) = some (.nx, (r01 n (.str []) (some (.imm (kp01 18 (.str [])))), S)) := by kernel_rfl
theorem e01_4 : (reprYL (kp01 18 (.str []))).isSome = true := reprYL_some (by kernel_rfl) (by kernel_rfl) (by kernel_rfl)
theorem a01_5 (n : Nat) (S : Store) : evS (s01 0) ([some (.imm (.han n)), some (.imm (.str [97])), none, none, none, none, none, none, none, none], S) = some (.nx, (r01 n (.str [97]) none, S)) := by kernel_rfl
theorem b01_5 (n : Nat) (S : Store) : evS (s01 1) (r01 n (.str [97]) none, S) = some (.nx, (r01 n (.str [97]) (some (.imm (kp01 12 (.str [97])))), S)) := by kernel_rfl
theorem c01_5 (n : Nat) (S : Store) : evS (s01 2) (r01 n (.str [97]) (some (.imm (kp01 12 (.str [97])))), S) = some (.nx, (r01 n (.str [97]) (some (.imm (kp01 17 (.str [97])))), S)) := by kernel_rfl
theorem d01_5 (n : Nat) (S : Store) : evS (s01 3) (r01 n (.str [97]) (some (.imm (kp01 17 (.str [97])))), S) = some (.nx, (r01 n (.str [97]) (some (.imm (kp01 18 (.str [97])))), S)) := by kernel_rfl
theorem e01_5 : (reprYL (kp01 18 (.str [97]))).isSome = true := reprYL_some (by kernel_rfl) (by kernel_rfl) (by kernel_rfl)
theorem a01_6 (n : Nat) (S : Store) : evS (s01 0) ([some (.imm (.han n)), some (.imm (.str [97, 32, 98, 58, 32, 43, 45])), none, none, none, none, none, none, none, none], S) = some (.nx, (r01 n (.str [97, 32, 98, 58, 32, 43, 45]) none, S)) := by kernel_rfl
theorem b01_6 (n : Nat) (S : Store) : evS (s01 1) (r01 n (.str [97, 32, 98, 58, 32, 43, 45]) none, S) = some (.nx, (r01 n (.str [97, 32, 98, 58, 32, 43, 45]) (some (.imm (kp01 12 (.str [97, 32, 98, 58, 32, 43, 45])))), S)) := by kernel_rfl
theorem c01_6 (n : Nat) (S : Store) : evS (s01 2) (r01 n (.str [97, 32, 98, 58, 32, 43, 45]) (some (.imm (kp01 12 (.str [97, 32, 98, 58, 32, 43, 45])))), S) = some (.nx, (r01 n (.str [97, 32, 98, 58, 32, 43, 45]) (some (.imm (kp01 17 (.str [97, 32, 98, 58, 32, 43, 45])))), S)) := by kernel_rfl
theorem d01_6 (n : Nat) (S : Store) : evS (s01 3) (r01 n (.str [97, 32, 98, 58, 32, 43, 45]) (some (.imm (kp01 17 (.str [97, 32, 98, 58, 32, 43, 45])))), S) = some (.nx, (r01 n (.str [97, 32, 98, 58, 32, 43, 45]) (some (.imm (kp01 18 (.str [97, 32, 98, 58, 32, 43, 45])))), S)) := by kernel_rfl
theorem e01_6 : (reprYL (kp01 18 (.str [97, 32, 98, 58, 32, 43, 45]))).isSome = true := reprYL_some (by kernel_rfl) (by kernel_rfl) (by kernel_rfl)
theorem a01_7 (n : Nat) (S : Store) : evS (s01 0) ([some (.imm (.han n)), some (.imm (.tup [])), none, none, none, none, none, none, none, none], S) = some (.nx, (r01 n (.tup []) none, S)) := by kernel_rfl
theorem b01_7 (n : Nat) (S : Store) : evS (s01 1) (r01 n (.tup []) none, S) = some (.nx, (r01 n (.tup []) (some (.imm (kp01 12 (.tup [])))), S)) := by kernel_rfl
theorem c01_7 (n : Nat) (S : Store) : evS (s01 2) (r01 n (.tup []) (some (.imm (kp01 12 (.tup [])))), S) = some (.nx, (r01 n (.tup []) (some (.imm (kp01 17 (.tup [])))), S)) := by kernel_rfl
theorem d01_7 (n : Nat) (S : Store) : evS (s01 3) (r01 n (.tup []) (some (.imm (kp01 17 (.tup [])))), S) = some (.nx, (r01 n (.tup []) (some (.imm (kp01 18 (.tup [])))), S)) := by kernel_rfl
theorem e01_7 : (reprYL (kp01 18 (.tup []))).isSome = true := reprYL_some (by kernel_rfl) (by kernel_rfl) (by kernel_rfl)
theorem a01_8 (n : Nat) (S : Store) : evS (s01 0) ([some (.imm (.han n)), some (.imm (.tup [.str [97], .tup [.str [98], .int 1]])), none, none, none, none, none, none, none, none], S) = some (.nx, (r01 n (.tup [.str [97], .tup [.str [98], .int 1]]) none, S)) := by kernel_rfl
theorem b01_8 (n : Nat) (S : Store) : evS (s01 1) (r01 n (.tup [.str [97], .tup [.str [98], .int 1]]) none, S) = some (.nx, (r01 n (.tup [.str [97], .tup [.str [98], .int 1]]) (some (.imm (kp01 12 (.tup [.str [97], .tup [.str [98], .int 1]])))), S)) := by kernel_rfl
theorem c01_8 (n : Nat) (S : Store) : evS (s01 2) (r01 n (.tup [.str [97], .tup [.str [98], .int 1]]) (some (.imm (kp01 12 (.tup [.str [97], .tup [.str [98], .int 1]])))), S) = some (.nx, (r01 n (.tup [.str [97], .tup [.str [98], .int 1]]) (some (.imm (kp01 17 (.tup [.str [97], .tup [.str [98], .int 1]])))), S)) := by kernel_rfl
theorem d01_8 (n : Nat) (S : Store) : evS (s01 3) (r01 n (.tup [.str [97], .tup [.str [98], .int 1]]) (some (.imm (kp01 17 (.tup [.str [97], .tup [.str [98], .int 1]])))), S) = some (.nx, (r01 n (.tup [.str [97], .tup [.str [98], .int 1]]) (some (.imm (kp01 18 (.tup [.str [97], .tup [.str [98], .int 1]])))), S)) := by kernel_rfl
theorem e01_8 : (reprYL (kp01 18 (.tup [.str [97], .tup [.str [98], .int 1]]))).isSome = true := reprYL_some (by kernel_rfl) (by kernel_rfl) (by kernel_rfl)
theorem a01_9 (n : Nat) (S : Store) : evS (s01 0) ([some (.imm (.han n)), some (.imm (.lst [])), none, none, none, none, none, none, none, none], S) = some (.nx, (r01 n (.lst []) none, S)) := by kernel_rfl
theorem b01_9 (n : Nat) (S : Store) : evS (s01 1) (r01 n (.lst []) none, S) = some (.nx, (r01 n (.lst []) (some (.imm (kp01 12 (.lst [])))), S)) := by kernel_rfl
theorem c01_9 (n : Nat) (S : Store) : evS (s01 2) (r01 n (.lst []) (some (.imm (kp01 12 (.lst [])))), S) = some (.nx, (r01 n (.lst []) (some (.imm (kp01 17 (.lst [])))), S)) := by kernel_rfl
theorem d01_9 (n : Nat) (S : Store) : evS (s01 3) (r01 n (.lst []) (some (.imm (kp01 17 (.lst [])))), S) = some (.nx, (r01 n (.lst []) (some (.imm (kp01 18 (.lst [])))), S)) := by kernel_rfl
theorem e01_9 : (reprYL (kp01 18 (.lst []))).isSome = true := reprYL_some (by kernel_rfl) (by kernel_rfl) (by kernel_rfl)
theorem a01_10 (n : Nat) (S : Store) : evS (s01 0) ([some (.imm (.han n)), some (.imm (.lst [.lst [.str [97]]])), none, none, none, none, none, none, none, none], S) = some (.nx, (r01 n (.lst [.lst [.str [97]]]) none, S)) := by kernel_rfl
theorem b01_10 (n : Nat) (S : Store) : evS (s01 1) (r01 n (.lst [.lst [.str [97]]]) none, S) = some (.nx, (r01 n (.lst [.lst [.str [97]]]) (some (.imm (kp01 12 (.lst [.lst [.str [97]]])))), S)) := by kernel_rfl
theorem c01_10 (n : Nat) (S : Store) : evS (s01 2) (r01 n (.lst [.lst [.str [97]]]) (some (.imm (kp01 12 (.lst [.lst [.str [97]]])))), S) = some (.nx, (r01 n (.lst [.lst [.str [97]]]) (some (.imm (kp01 17 (.lst [.lst [.str [97]]])))), S)) := by kernel_rfl
theorem d01_10 (n : Nat) (S : Store) : evS (s01 3) (r01 n (.lst [.lst [.str [97]]]) (some (.imm (kp01 17 (.lst [.lst [.str [97]]])))), S) = some (.nx, (r01 n (.lst [.lst [.str [97]]]) (some (.imm (kp01 18 (.lst [.lst [.str [97]]])))), S)) := by kernel_rfl
theorem e01_10 : (reprYL (kp01 18 (.lst [.lst [.str [97]]]))).isSome = true := reprYL_some (by kernel_rfl) (by kernel_rfl) (by kernel_rfl)
theorem a01_11 (n : Nat) (S : Store) : evS (s01 0) ([some (.imm (.han n)), some (.imm (.dic [])), none, none, none, none, none, none, none, none], S) = some (.nx, (r01 n (.dic []) none, S)) := by kernel_rfl
theorem b01_11 (n : Nat) (S : Store) : evS (s01 1) (r01 n (.dic []) none, S) = some (.nx, (r01 n (.dic []) (some (.imm (kp01 12 (.dic [])))), S)) := by kernel_rfl
theorem c01_11 (n : Nat) (S : Store) : evS (s01 2) (r01 n (.dic []) (some (.imm (kp01 12 (.dic [])))), S) = some (.nx, (r01 n (.dic []) (some (.imm (kp01 17 (.dic [])))), S)) := by kernel_rfl
theorem d01_11 (n : Nat) (S : Store) : evS (s01 3) (r01 n (.dic []) (some (.imm (kp01 17 (.dic [])))), S) = some (.nx, (r01 n (.dic []) (some (.imm (kp01 18 (.dic [])))), S)) := by kernel_rfl
theorem e01_11 : (reprYL (kp01 18 (.dic []))).isSome = true := by kernel_rfl
theorem a01_12 (n : Nat) (S : Store) : evS (s01 0) ([some (.imm (.han n)), some (.imm (.dic [(.inr ⟨#[97]⟩, .tup [])])), none, none, none, none, none, none, none, none], S) = some (.nx, (r01 n (.dic [(.inr ⟨#[97]⟩, .tup [])]) none, S)) := by kernel_rfl
theorem b01_12 (n : Nat) (S : Store) : evS (s01 1) (r01 n (.dic [(.inr ⟨#[97]⟩, .tup [])]) none, S) = some (.nx, (r01 n (.dic [(.inr ⟨#[97]⟩, .tup [])]) (some (.imm (kp01 12 (.dic [(.inr ⟨#[97]⟩, .tup [])])))), S)) := by kernel_rfl
theorem c01_12 (n : Nat) (S : Store) : evS (s01 2) (r01 n (.dic [(.inr ⟨#[97]⟩, .tup [])]) (some (.imm (kp01 12 (.dic [(.inr ⟨#[97]⟩, .tup [])])))), S) = some (.nx, (r01 n (.dic [(.inr ⟨#[97]⟩, .tup [])]) (some (.imm (kp01 17 (.dic [(.inr ⟨#[97]⟩, .tup [])])))), S)) := by kernel_rfl
theorem d01_12 (n : Nat) (S : Store) : evS (s01 3) (r01 n (.dic [(.inr ⟨#[97]⟩, .tup [])]) (some (.imm (kp01 17 (.dic [(.inr ⟨#[97]⟩, .tup [])])))), S) = some (.nx, (r01 n (.dic [(.inr ⟨#[97]⟩, .tup [])]) (some (.imm (kp01 18 (.dic [(.inr ⟨#[97]⟩, .tup [])])))), S)) := by kernel_rfl
theorem e01_12 : (reprYL (kp01 18 (.dic [(.inr ⟨#[97]⟩, .tup [])]))).isSome = true := by kernel_rfl
end KK
set_option Elab.async false
set_option linter.all false
set_option maxRecDepth 100000
set_option maxHeartbeats 4000000
namespace KK
open PySem DE
theorem DDB0 : (type_of% @dd_lnbor) ∧ (type_of% @dd_lnown) ∧ (type_of% @dd_lnbrw) ∧ (type_of% @dd_plT) ∧ (type_of% @dd_rdT) ∧ (type_of% @dd_lnT) ∧ (type_of% @dd_dvT) ∧ (type_of% @dd_itT) ∧ (type_of% @dd_isT) ∧ (type_of% @dd_tyT) ∧ (type_of% @dd_lenT) ∧ (type_of% @dd_esT) ∧ (type_of% @dd_tpT) ∧ (type_of% @dd_lsT) ∧ (type_of% @dd_plB) ∧ (type_of% @dd_rdB) ∧ (type_of% @dd_lnB) ∧ (type_of% @dd_dvB) ∧ (type_of% @dd_icB) ∧ (type_of% @dd_f4B) ∧ (type_of% @dd_f5B) ∧ (type_of% @dd_f6B) ∧ (type_of% @dd_okL) ∧ (type_of% @dd_xeL) ∧ (type_of% @dd_okP) ∧ (type_of% @dd_lstP) ∧ (type_of% @dd_compO) ∧ (type_of% @dd_callL) ∧ (type_of% @dd_kClc) ∧ (type_of% @dd_kClc2) ∧ (type_of% @dd_semClc) ∧ (type_of% @dd_ndef) ∧ (type_of% @dd_tvC) ∧ (type_of% @dd_plC) ∧ (type_of% @dd_plO) ∧ (type_of% @dd_plF) ∧ (type_of% @dd_rdF) ∧ (type_of% @dd_lnF) ∧ (type_of% @dd_dvF) ∧ (type_of% @dd_isF) ∧ (type_of% @dd_i0F) ∧ (type_of% @dd_i1F) ∧ (type_of% @dd_plFn) ∧ (type_of% @dd_rdFn) ∧ (type_of% @dd_lnFn) ∧ (type_of% @dd_dvFn) ∧ (type_of% @dd_plFt) ∧ (type_of% @dd_rdFt) ∧ (type_of% @dd_lnFt) ∧ (type_of% @dd_dvFt) ∧ (type_of% @dd_leFt) ∧ (type_of% @dd_tix) ∧ (type_of% @dd_ti1) ∧ (type_of% @dd_ti2) ∧ (type_of% @dd_plC) ∧ (type_of% @dd_rdC) ∧ (type_of% @dd_lnC) ∧ (type_of% @dd_dvC) ∧ (type_of% @dd_icC) ∧ (type_of% @dd_f12C) ∧ (type_of% @dd_f13C) ∧ (type_of% @dd_pr) ∧ (type_of% @dd_pb4) ∧ (type_of% @dd_pb5) ∧ (type_of% @dd_pb6) ∧ (type_of% @dd_pc4) ∧ (type_of% @dd_pc12) ∧ (type_of% @dd_pc13) ∧ (type_of% @dd_ift) ∧ (type_of% @dd_ftb) ∧ (type_of% @dd_isEB) ∧ (type_of% @dd_hIsi) ∧ (type_of% @dd_kHr) ∧ (type_of% @dd_hFld) ∧ (type_of% @dd_hCall) ∧ (type_of% @dd_fnDE) ∧ (type_of% @dd_rhoC) ∧ (type_of% @dd_catch) ∧ (type_of% @dd_endC) ∧ (type_of% @dd_kCallX) ∧ (type_of% @dd_callX) ∧ (type_of% @dd_xcall) ∧ (type_of% @dd_kPkX) ∧ (type_of% @dd_callKX) ∧ (type_of% @dd_kLfC) ∧ (type_of% @dd_kLf) ∧ (type_of% @dd_lfN) ∧ (type_of% @dd_lfC) ∧ (type_of% @dd_xcallK) ∧ (type_of% @dd_kOkX) ∧ (type_of% @dd_xpure) ∧ (type_of% @dd_kOut) ∧ (type_of% @dd_Xpure) ∧ (type_of% @dd_exp_ok) ∧ (type_of% @dd_exp_ex) ∧ (type_of% @dd_Xexp) ∧ (type_of% @dd_ret_ok) ∧ (type_of% @dd_ret_ex) ∧ (type_of% @dd_Xret) ∧ (type_of% @dd_set_ok) ∧ (type_of% @dd_set_ex) ∧ (type_of% @dd_Xset) ∧ (type_of% @dd_kXif) ∧ (type_of% @dd_Xife) ∧ (type_of% @dd_Xraise0) ∧ (type_of% @dd_kRs) ∧ (type_of% @dd_Xraise1) ∧ (type_of% @dd_Xnil) ∧ (type_of% @dd_Xcons) ∧ (type_of% @dd_seq_nx) ∧ (type_of% @dd_seq_rt) ∧ (type_of% @dd_seq_ex) ∧ (type_of% @dd_Xsp) ∧ (type_of% @dd_fnDX) ∧ (type_of% @dd_endX_rt) ∧ (type_of% @dd_endX_nx) ∧ (type_of% @dd_endX_ex) ∧ (type_of% @dd_kTe) ∧ (type_of% @dd_tell_ok) ∧ (type_of% @dd_tell_ex) ∧ (type_of% @dd_tellE) ∧ (type_of% @dd_restS) ∧ (type_of% @dd_restE) ∧ (type_of% @dd_restR) ∧ (type_of% @dd_itp0) ∧ (type_of% @dd_itp1) ∧ (type_of% @dd_itpk) ∧ (type_of% @dd_tidI) ∧ (type_of% @dd_tid1) ∧ (type_of% @dd_tid2) ∧ (type_of% @dd_itr) ∧ (type_of% @dd_itr2) ∧ (type_of% @dd_itl) ∧ (type_of% @dd_itv) ∧ (type_of% @dd_itpl) := ⟨@dd_lnbor, @dd_lnown, @dd_lnbrw, @dd_plT, @dd_rdT, @dd_lnT, @dd_dvT, @dd_itT, @dd_isT, @dd_tyT, @dd_lenT, @dd_esT, @dd_tpT, @dd_lsT, @dd_plB, @dd_rdB, @dd_lnB, @dd_dvB, @dd_icB, @dd_f4B, @dd_f5B, @dd_f6B, @dd_okL, @dd_xeL, @dd_okP, @dd_lstP, @dd_compO, @dd_callL, @dd_kClc, @dd_kClc2, @dd_semClc, @dd_ndef, @dd_tvC, @dd_plC, @dd_plO, @dd_plF, @dd_rdF, @dd_lnF, @dd_dvF, @dd_isF, @dd_i0F, @dd_i1F, @dd_plFn, @dd_rdFn, @dd_lnFn, @dd_dvFn, @dd_plFt, @dd_rdFt, @dd_lnFt, @dd_dvFt, @dd_leFt, @dd_tix, @dd_ti1, @dd_ti2, @dd_plC, @dd_rdC, @dd_lnC, @dd_dvC, @dd_icC, @dd_f12C, @dd_f13C, @dd_pr, @dd_pb4, @dd_pb5, @dd_pb6, @dd_pc4, @dd_pc12, @dd_pc13, @dd_ift, @dd_ftb, @dd_isEB, @dd_hIsi, @dd_kHr, @dd_hFld, @dd_hCall, @dd_fnDE, @dd_rhoC, @dd_catch, @dd_endC, @dd_kCallX, @dd_callX, @dd_xcall, @dd_kPkX, @dd_callKX, @dd_kLfC, @dd_kLf, @dd_lfN, @dd_lfC, @dd_xcallK, @dd_kOkX, @dd_xpure, @dd_kOut, @dd_Xpure, @dd_exp_ok, @dd_exp_ex, @dd_Xexp, @dd_ret_ok, @dd_ret_ex, @dd_Xret, @dd_set_ok, @dd_set_ex, @dd_Xset, @dd_kXif, @dd_Xife, @dd_Xraise0, @dd_kRs, @dd_Xraise1, @dd_Xnil, @dd_Xcons, @dd_seq_nx, @dd_seq_rt, @dd_seq_ex, @dd_Xsp, @dd_fnDX, @dd_endX_rt, @dd_endX_nx, @dd_endX_ex, @dd_kTe, @dd_tell_ok, @dd_tell_ex, @dd_tellE, @dd_restS, @dd_restE, @dd_restR, @dd_itp0, @dd_itp1, @dd_itpk, @dd_tidI, @dd_tid1, @dd_tid2, @dd_itr, @dd_itr2, @dd_itl, @dd_itv, @dd_itpl⟩
theorem reprYL_str {d : D} (h : (reprYL d).isSome = true) : ∃ s, reprYL d = some (.str s) := by
  cases d with
  | lst ds =>
    have e : reprYL (.lst ds) = reprYD (.lst ds) := rfl
    rw [e] at h ⊢
    unfold reprYD at h ⊢
    cases q : pyR (.lst ds) with
    | none => rw [q] at h; cases h
    | some p =>
      rw [q, Option.bind_some] at h
      rw [Option.bind_some]
      split at h
      · rename_i hc; exact ⟨_, if_pos hc⟩
      · cases h
  | _ => cases h
theorem mul01 (x : D) : mulD (.lst [.lst [x, x]]) (.int 18) = some (kp01 18 x) := by rfl
theorem c0_01 (n : Nat) (x : D) (o2 : Option DV) (S : Store) : evF law_right_c0 (r01 n x o2, S) = some ([.int 1, .int 1], (r01 n x o2, S)) := by kernel_rfl
theorem turn01 {n : Nat} {S : Store} {x : D} (hpl : x.plain = true) (hbr : ∀ z : Z, rd z x = some x)
    (a : evS (s01 0) ([some (.imm (.han n)), some (.imm x), none, none, none, none, none, none, none, none], S) = some (.nx, (r01 n x none, S)))
    (b : evS (s01 1) (r01 n x none, S) = some (.nx, (r01 n x (some (.imm (kp01 12 x))), S)))
    (c : evS (s01 2) (r01 n x (some (.imm (kp01 12 x))), S) = some (.nx, (r01 n x (some (.imm (kp01 17 x))), S)))
    (d : evS (s01 3) (r01 n x (some (.imm (kp01 17 x))), S) = some (.nx, (r01 n x (some (.imm (kp01 18 x))), S)))
    (e : (reprYL (kp01 18 x)).isSome = true) : endF (evSs t01 ([some (.imm (.han n)), some (.imm x), none, none, none, none, none, none, none, none], S)) = some (.bl true, S) := by
  obtain ⟨s, hs⟩ := reprYL_str e
  have hm := mul01 x
  have hc := c0_01 n x (some (.imm (kp01 18 x))) S
  have n1 : neD (.str s) (.str s) = some (.bl false) := ne_self dpt_str
  have n2 : neD (.lst [.int 1, .int 1]) (.lst [.int 1, .int 1]) = some (.bl false) := by kernel_rfl
  have hk : ∀ z : Z, rd z (kp01 18 x) = some (kp01 18 x) := fun _ => rfl
  have hok : ∀ a b : D, okLen [a, b] = true := fun _ _ => rfl
  have f : evS (s01 4) (r01 n x (some (.imm (kp01 18 x))), S) = some (.nx, (r01 n x (some (.imm (kp01 18 x))), S)) := by
    have es : s01 4 = .ife (.boo false (.cons (.cmp .NotEq neD (.bc "repr" (f1 reprYL) (.cons (.var 2) .nil)) (.bc "repr" (f1 reprYL) (.cons (.bin .Mult mulD (.fr (.dsp (.cons (.fr (.dsp (.cons (.var 1) (.cons (.var 1) .nil)))) .nil))) (.cst (.int 18))) .nil))) (.cons (.cmp .NotEq neD (.fr law_right_c0) (.fr (.dsp (.cons (.cst (.int 1)) (.cons (.cst (.int 1)) .nil))))) .nil))) (.cons (.ret (.cst (.bl false))) .nil) .nil := rfl
    rw [es]
    unfold r01 at hc ⊢
    generalize kp01 18 x = kp at hs hm hk hc ⊢
    simp only [EVZ, EVY, List.replicate, ↓reduceIte, Nat.reduceAdd, Nat.reduceSub, DDB0, hk, hs, hpl, hm, n1, hc, n2, hok]
  rw [t01_eq, ss_nx a, ss_nx b, ss_nx c, ss_nx d, ss_nx f]
  exact u01_eq n x _ S
theorem rest01 (n : Nat) (S : Store) {k : Nat} (hk : k < 13) : ∃ x, xs01.getD k .non = x ∧ x.plain = true ∧ toDV x = .imm x ∧ endF (evSs t01 ([some (.imm (.han n)), some (.imm x), none, none, none, none, none, none, none, none], S)) = some (.bl true, S) := by
  match k, hk with
  | 0, _ => exact ⟨_, rfl, rfl, rfl, turn01 rfl (fun _ => rfl) (a01_0 n S) (b01_0 n S) (c01_0 n S) (d01_0 n S) e01_0⟩
  | 1, _ => exact ⟨_, rfl, rfl, rfl, turn01 rfl (fun _ => rfl) (a01_1 n S) (b01_1 n S) (c01_1 n S) (d01_1 n S) e01_1⟩
  | 2, _ => exact ⟨_, rfl, rfl, rfl, turn01 rfl (fun _ => rfl) (a01_2 n S) (b01_2 n S) (c01_2 n S) (d01_2 n S) e01_2⟩
  | 3, _ => exact ⟨_, rfl, rfl, rfl, turn01 rfl (fun _ => rfl) (a01_3 n S) (b01_3 n S) (c01_3 n S) (d01_3 n S) e01_3⟩
  | 4, _ => exact ⟨_, rfl, rfl, rfl, turn01 rfl (fun _ => rfl) (a01_4 n S) (b01_4 n S) (c01_4 n S) (d01_4 n S) e01_4⟩
  | 5, _ => exact ⟨_, rfl, rfl, rfl, turn01 rfl (fun _ => rfl) (a01_5 n S) (b01_5 n S) (c01_5 n S) (d01_5 n S) e01_5⟩
  | 6, _ => exact ⟨_, rfl, rfl, rfl, turn01 rfl (fun _ => rfl) (a01_6 n S) (b01_6 n S) (c01_6 n S) (d01_6 n S) e01_6⟩
  | 7, _ => exact ⟨_, rfl, rfl, rfl, turn01 rfl (fun _ => rfl) (a01_7 n S) (b01_7 n S) (c01_7 n S) (d01_7 n S) e01_7⟩
  | 8, _ => exact ⟨_, rfl, rfl, rfl, turn01 rfl (fun _ => rfl) (a01_8 n S) (b01_8 n S) (c01_8 n S) (d01_8 n S) e01_8⟩
  | 9, _ => exact ⟨_, rfl, rfl, rfl, turn01 rfl (fun _ => rfl) (a01_9 n S) (b01_9 n S) (c01_9 n S) (d01_9 n S) e01_9⟩
  | 10, _ => exact ⟨_, rfl, rfl, rfl, turn01 rfl (fun _ => rfl) (a01_10 n S) (b01_10 n S) (c01_10 n S) (d01_10 n S) e01_10⟩
  | 11, _ => exact ⟨_, rfl, rfl, rfl, turn01 rfl (fun _ => rfl) (a01_11 n S) (b01_11 n S) (c01_11 n S) (d01_11 n S) e01_11⟩
  | 12, _ => exact ⟨_, rfl, rfl, rfl, turn01 rfl (fun _ => rfl) (a01_12 n S) (b01_12 n S) (c01_12 n S) (d01_12 n S) e01_12⟩
  | k + 13, hk => omega
theorem thing01 {c : MO} (hc : Purse c) (p : Store) : ∃ k, k < 13 ∧ ∃ c', m_law_thing_v1 [.han p.length] (p ++ [c]) = some (xs01.getD k .non, p ++ [c']) ∧ Purse c' := by
  obtain ⟨d, c', e, hd, hc'⟩ := drawN_eq hc p [] 13 (by omega) (by omega)
  have e : m_law_draw [.han p.length, .int 13] (p ++ [c]) = some (.int (d : Nat), p ++ [c']) := e
  refine ⟨d, hd, c', ?_, hc'⟩
  have h2 := ix01 hd
  obtain ⟨x, ex, hpl, _, _⟩ := rest01 0 [] hd
  rw [ex] at h2 ⊢
  unfold m_law_thing_v1
  rw [fnD_key1, ir_thing01]
  show endF (evSs _ ([some (.imm (.han p.length)), none], p ++ [c])) = _
  rw [ss_nx (e01_eq p.length (p ++ [c]))]
  generalize xs01 = l at h2 ⊢
  simp only [EVZ, EVY, List.replicate, ↓reduceIte, Nat.reduceAdd, Nat.reduceSub, DDB0, e, h2, hpl]
theorem right01 (c : MO) (p : Store) (hc : Purse c) (hp : Cl p) : ∃ c', m_law_right [.han p.length] (p ++ [c]) = some (.bl true, p ++ [c']) ∧ Purse c' := by
  obtain ⟨k, hk, c', e, hc'⟩ := thing01 hc p
  refine ⟨c', ?_, hc'⟩
  obtain ⟨x, ex, hpl, hdv, hr⟩ := rest01 p.length (p ++ [c']) hk
  rw [ex] at e
  have h1 : evS (.set 1 (.call "_law_thing" 1 m_law_thing_v1 (.cons (.var 0) .nil))) ([some (.imm (.han p.length)), none, none, none, none, none, none, none, none, none], p ++ [c]) = some (.nx, ([some (.imm (.han p.length)), some (.imm x), none, none, none, none, none, none, none, none], p ++ [c'])) := by
    simp only [EVZ, EVY, List.replicate, ↓reduceIte, Nat.reduceAdd, Nat.reduceSub, DDB0, e, hpl, hdv]
  unfold m_law_right
  rw [fnD_key1, ir_right01]
  show endF (evSs _ ([some (.imm (.han p.length)), none, none, none, none, none, none, none, none, none], p ++ [c])) = _
  rw [ss_nx h1]
  exact hr
abbrev lims01 : D := .lst [.int 8, .int 20, .int 8, .int 99, .int 10, .int 8, .int 4]
theorem law01 (ns : List Int) (hn : ns.length ≤ 63) : ∃ S, m_law [.lst (ns.map .int)] [] = some (.bl true, S) := by
  obtain ⟨m, hm, em⟩ := spots (n := ns.length) (top := 4) (by omega)
  obtain ⟨ys, r', S', e, ⟨hy, rfl, hS'⟩, hl⟩ := comp_acc (it := .rg1 (.bc "max" (f2 max2D) (.cons (.cst (.int 2)) (.cons (.bc "min" (f2 min2D) (.cons (.bc "len" (f1 lenD) (.cons (.var 0) .nil)) (.cons (.cst (.int 4)) .nil))) .nil)))) (x := "_law_spot") (i := 2) (e := .call "_law_right" 1 m_law_right (.cons (.call "_law_purse" 2 m_law_purse (.cons (.var 0) (.cons (.var 2) .nil))) .nil)) (ρ := [some (.imm (.lst (ns.map .int))), some (.imm lims01), none]) (S := []) (List.range m) (fun k => D.int (k : Nat))
    (fun acc ρ S => (∀ x ∈ acc, x = .bl true) ∧ ρ = [some (.imm (.lst (ns.map .int))), some (.imm lims01), none] ∧ Cl S)
    (evI_rng (by
      have em : (if (if (4 : Int) < ((ns.length : Nat) : Int) then (4 : Int) else ((ns.length : Nat) : Int)) > 2 then (if (4 : Int) < ((ns.length : Nat) : Int) then (4 : Int) else ((ns.length : Nat) : Int)) else 2) = ((m : Nat) : Int) := em
      simp only [EVZ, EVY, List.replicate, ↓reduceIte, Nat.reduceAdd, Nat.reduceSub, DDB0, min2D, max2D, List.length_map]
      rw [em]) (by omega)) ⟨fun _ h => (by cases h), rfl, fun _ h => (by cases h)⟩ (by simp; omega) (fun acc k ρ S hk hI => by
      obtain ⟨hy, rfl, hS⟩ := hI
      have hk1 : k < m := by
        have := List.mem_of_getElem? hk
        simpa using this
      obtain ⟨c, e1, hc⟩ := purse_cell S ns k (by omega)
      obtain ⟨c', e2, hc'⟩ := right01 c S hc hS
      refine ⟨.bl true, [some (.imm (.lst (ns.map .int))), some (.imm lims01), some (.imm (.int (k : Nat)))], S ++ [c'], ?_, rfl, fun x hx => ?_, rfl, hS.pc hc'⟩
      · simp only [EVZ, EVY, List.replicate, ↓reduceIte, Nat.reduceAdd, Nat.reduceSub, DDB0, e1, e2]
      · rcases List.mem_append.mp hx with h | h
        · exact hy x h
        · exact List.mem_singleton.mp h)
  refine ⟨S', ?_⟩
  have e : evF law_c0 ([some (.imm (.lst (ns.map .int))), some (.imm lims01), none], []) = some (ys, ([some (.imm (.lst (ns.map .int))), some (.imm lims01), none], S')) := e
  have nn : neD lims01 lims01 = some (.bl false) := by kernel_rfl
  have ok7 : okLen [D.int 8, D.int 20, D.int 8, D.int 99, D.int 10, D.int 8, D.int 4] = true := rfl
  unfold m_law ir_law
  simp only [EVZ, EVY, List.replicate, ↓reduceIte, Nat.reduceAdd, Nat.reduceSub, DDB0, e, nn, ok7, all_true hy]
end KK
set_option Elab.async false
set_option linter.all false
set_option maxRecDepth 100000
set_option maxHeartbeats 4000000
namespace KK
open PySem PySem.Spec L2 DE
abbrev N_law_flags_k1 : List Str := ["_law_e", "_law_found"]
abbrev P_law_flags_k1 : List Str := ["_law_e"]
theorem ck_law_flags_k1 : chkSs N_law_flags_k1 (defScope s_law_flags_k1) ir_law_flags_k1 (defBody s_law_flags_k1) = true := by decide +kernel
theorem sc_law_flags_k1 : FnScope N_law_flags_k1 P_law_flags_k1 (defScope s_law_flags_k1) := ⟨rfl, rfl, rfl, by decide +kernel, rfl, by decide +kernel, by decide +kernel⟩
abbrev N_law_firsts : List Str := ["_law_x", "_law_found"]
abbrev P_law_firsts : List Str := ["_law_x"]
theorem ck_law_firsts : chkSs N_law_firsts (defScope s_law_firsts) ir_law_firsts (defBody s_law_firsts) = true := by decide +kernel
theorem sc_law_firsts : FnScope N_law_firsts P_law_firsts (defScope s_law_firsts) := ⟨rfl, rfl, rfl, by decide +kernel, rfl, by decide +kernel, by decide +kernel⟩
abbrev N_law_seconds : List Str := ["_law_x", "_law_found"]
abbrev P_law_seconds : List Str := ["_law_x"]
theorem ck_law_seconds : chkSs N_law_seconds (defScope s_law_seconds) ir_law_seconds (defBody s_law_seconds) = true := by decide +kernel
theorem sc_law_seconds : FnScope N_law_seconds P_law_seconds (defScope s_law_seconds) := ⟨rfl, rfl, rfl, by decide +kernel, rfl, by decide +kernel, by decide +kernel⟩
abbrev N_law_draw : List Str := ["_law_purse_here", "_law_many", "_law_digit"]
abbrev P_law_draw : List Str := ["_law_purse_here", "_law_many"]
theorem ck_law_draw : chkSs N_law_draw (defScope s_law_draw) ir_law_draw (defBody s_law_draw) = true := by decide +kernel
theorem sc_law_draw : FnScope N_law_draw P_law_draw (defScope s_law_draw) := ⟨rfl, rfl, rfl, by decide +kernel, rfl, by decide +kernel, by decide +kernel⟩
abbrev N_law_thing_v1 : List Str := ["_law_purse_here", "_law_some"]
abbrev P_law_thing_v1 : List Str := ["_law_purse_here"]
theorem ck_law_thing_v1 : chkSs N_law_thing_v1 (defScope s_law_thing_v1) ir_law_thing_v1 (defBody s_law_thing_v1) = true := by decide +kernel
theorem sc_law_thing_v1 : FnScope N_law_thing_v1 P_law_thing_v1 (defScope s_law_thing_v1) := ⟨rfl, rfl, rfl, by decide +kernel, rfl, by decide +kernel, by decide +kernel⟩
abbrev N_law_right : List Str := ["_law_purse_here", "_law_x", "_law_kept", "_law_pairs_here", "_law_others", "_law_k", "_law_both", "_law_e", "_law_flags_here", "_law_is_first"]
abbrev P_law_right : List Str := ["_law_purse_here"]
theorem ck_law_right : chkSs N_law_right (defScope s_law_right) ir_law_right (defBody s_law_right) = true := by decide +kernel
theorem sc_law_right : FnScope N_law_right P_law_right (defScope s_law_right) := ⟨rfl, rfl, rfl, by decide +kernel, rfl, by decide +kernel, by decide +kernel⟩
abbrev N_law_purse : List Str := ["_law_script", "_law_spot", "_law_cell", "_law_seed", "_law_one"]
abbrev P_law_purse : List Str := ["_law_script", "_law_spot"]
theorem ck_law_purse : chkSs N_law_purse (defScope s_law_purse) ir_law_purse (defBody s_law_purse) = true := by decide +kernel
theorem sc_law_purse : FnScope N_law_purse P_law_purse (defScope s_law_purse) := ⟨rfl, rfl, rfl, by decide +kernel, rfl, by decide +kernel, by decide +kernel⟩
abbrev N_law : List Str := ["_law_script", "_law_limits_here", "_law_spot"]
abbrev P_law : List Str := ["_law_script"]
theorem ck_law : chkSs N_law (defScope s_law) ir_law (defBody s_law) = true := by decide +kernel
theorem sc_law : FnScope N_law P_law (defScope s_law) := ⟨rfl, rfl, rfl, by decide +kernel, rfl, by decide +kernel, by decide +kernel⟩
end KK
set_option Elab.async false
set_option linter.all false
set_option maxRecDepth 100000
set_option maxHeartbeats 4000000
namespace KK
open PySem PySem.Spec L2 DE
abbrev Wk (K : PySem.W.Frag) : Wd := ⟨K, fun c => if c = 19 then some (He.ga K "InvalidCases") else if c = 18 then some (He.ga K "InvalidOffers") else if c = 17 then some (He.ga K "InvalidLot") else if c = 16 then some (He.ga K "NotACourt") else if c = 15 then some (He.ga K "NotACase") else if c = 14 then some (He.ga K "NotABook") else if c = 13 then some (He.ga K "UnknownName") else if c = 12 then some (He.ga K "InvalidRule") else if c = 11 then some (He.ga K "InvalidRanking") else if c = 10 then some (He.ga K "InvalidRow") else if c = 9 then some (He.ga K "InvalidClaim") else if c = 8 then some (He.ga K "InvalidIndex") else if c = 7 then some (He.ga K "InvalidName") else if c = 6 then some (He.ga K "InvalidNumber") else if c = 5 then some (He.ga K "InvalidText") else if c = 24 then some (He.ga K "NothingToUndo") else if c = 23 then some (He.ga K "InUse") else if c = 22 then some (He.ga K "Broken") else if c = 21 then some (He.ga K "TooMany") else if c = 20 then some (He.ga K "NoRanking") else none, fun i => nms.getD i "", 17, fun k => none, lamT K tfn⟩
theorem injW {K : PySem.W.Frag} : Inj (Wk K) := fun i j hi hj e => (show ∀ i < 17, ∀ j < 17, nms.getD i "" = nms.getD j "" → i = j by decide +kernel) i hi j hj e
structure Hd (w : World) (K : PySem.W.Frag) (mg : Str → Option Value) (base : Heap) : Prop where
  c : He.SaysD fa fn K
  ex : ex K = true
  tb : ∀ (i : Nat) t, ts[i]? = some t → ∃ es n, KDict K w (t.1 K) es n
  ns : ∃ h : Heap, K.In h ∧ h.Ns mainGlobals mg
  tbb : ∀ p ∈ tfs, LamX.TabB base mg (He.cT K p).1 (He.cT K p).2
section
variable {P : Program} {w : World} {K : PySem.W.Frag} {mg : Str → Option Value} {base : Heap} {qn : Str}
theorem gl_law_flags_k1 (H : Hd w K mg base) : mg "_law_flags" = some (.ref (He.ga K "_law_flags")) := let ⟨_, X, G⟩ := H.ns; He.glo_ok X G (H.c.fact 0 rfl)
theorem gl_law_firsts (H : Hd w K mg base) : mg "_law_firsts" = some (.ref (He.ga K "_law_firsts")) := let ⟨_, X, G⟩ := H.ns; He.glo_ok X G (H.c.fact 1 rfl)
theorem gl_law_seconds (H : Hd w K mg base) : mg "_law_seconds" = some (.ref (He.ga K "_law_seconds")) := let ⟨_, X, G⟩ := H.ns; He.glo_ok X G (H.c.fact 2 rfl)
theorem gl_law_draw (H : Hd w K mg base) : mg "_law_draw" = some (.ref (He.ga K "_law_draw")) := let ⟨_, X, G⟩ := H.ns; He.glo_ok X G (H.c.fact 3 rfl)
theorem gl_law_thing_v1 (H : Hd w K mg base) : mg "_law_thing" = some (.ref (He.ga K "_law_thing")) := let ⟨_, X, G⟩ := H.ns; He.glo_ok X G (H.c.fact 4 rfl)
theorem gl_law_right (H : Hd w K mg base) : mg "_law_right" = some (.ref (He.ga K "_law_right")) := let ⟨_, X, G⟩ := H.ns; He.glo_ok X G (H.c.fact 5 rfl)
theorem gl_law_purse (H : Hd w K mg base) : mg "_law_purse" = some (.ref (He.ga K "_law_purse")) := let ⟨_, X, G⟩ := H.ns; He.glo_ok X G (H.c.fact 6 rfl)
theorem fr_ArithmeticError (H : Hd w K mg base) : mg "ArithmeticError" = none := let ⟨_, X, G⟩ := H.ns; He.free_ok X G (H.c.fact 8 rfl)
theorem fr_ValueError (H : Hd w K mg base) : mg "ValueError" = none := let ⟨_, X, G⟩ := H.ns; He.free_ok X G (H.c.fact 9 rfl)
theorem fr_abs (H : Hd w K mg base) : mg "abs" = none := let ⟨_, X, G⟩ := H.ns; He.free_ok X G (H.c.fact 10 rfl)
theorem fr_all (H : Hd w K mg base) : mg "all" = none := let ⟨_, X, G⟩ := H.ns; He.free_ok X G (H.c.fact 11 rfl)
theorem fr_divmod (H : Hd w K mg base) : mg "divmod" = none := let ⟨_, X, G⟩ := H.ns; He.free_ok X G (H.c.fact 12 rfl)
theorem fr_enumerate (H : Hd w K mg base) : mg "enumerate" = none := let ⟨_, X, G⟩ := H.ns; He.free_ok X G (H.c.fact 13 rfl)
theorem fr_int (H : Hd w K mg base) : mg "int" = none := let ⟨_, X, G⟩ := H.ns; He.free_ok X G (H.c.fact 14 rfl)
theorem fr_isinstance (H : Hd w K mg base) : mg "isinstance" = none := let ⟨_, X, G⟩ := H.ns; He.free_ok X G (H.c.fact 15 rfl)
theorem fr_len (H : Hd w K mg base) : mg "len" = none := let ⟨_, X, G⟩ := H.ns; He.free_ok X G (H.c.fact 16 rfl)
theorem fr_max (H : Hd w K mg base) : mg "max" = none := let ⟨_, X, G⟩ := H.ns; He.free_ok X G (H.c.fact 17 rfl)
theorem fr_min (H : Hd w K mg base) : mg "min" = none := let ⟨_, X, G⟩ := H.ns; He.free_ok X G (H.c.fact 18 rfl)
theorem fr_range (H : Hd w K mg base) : mg "range" = none := let ⟨_, X, G⟩ := H.ns; He.free_ok X G (H.c.fact 19 rfl)
theorem fr_repr (H : Hd w K mg base) : mg "repr" = none := let ⟨_, X, G⟩ := H.ns; He.free_ok X G (H.c.fact 20 rfl)
theorem co_MOST_CANDIDATES (H : Hd w K mg base) : GloN ⟨P, w, mg, base, Wk K, qn⟩ "MOST_CANDIDATES" (.int 8) := let ⟨_, X, G⟩ := H.ns; let ⟨t, e⟩ := He.int_ok X G (H.c.fact 21 rfl); ⟨_, .int 8, e, ⟨t, rfl⟩, rfl, fun _ _ => rep_int⟩
theorem co_MOST_CASES (H : Hd w K mg base) : GloN ⟨P, w, mg, base, Wk K, qn⟩ "MOST_CASES" (.int 4) := let ⟨_, X, G⟩ := H.ns; let ⟨t, e⟩ := He.int_ok X G (H.c.fact 22 rfl); ⟨_, .int 4, e, ⟨t, rfl⟩, rfl, fun _ _ => rep_int⟩
theorem co_MOST_MARKS (H : Hd w K mg base) : GloN ⟨P, w, mg, base, Wk K, qn⟩ "MOST_MARKS" (.int 99) := let ⟨_, X, G⟩ := H.ns; let ⟨t, e⟩ := He.int_ok X G (H.c.fact 23 rfl); ⟨_, .int 99, e, ⟨t, rfl⟩, rfl, fun _ _ => rep_int⟩
theorem co_MOST_OFFERS (H : Hd w K mg base) : GloN ⟨P, w, mg, base, Wk K, qn⟩ "MOST_OFFERS" (.int 8) := let ⟨_, X, G⟩ := H.ns; let ⟨t, e⟩ := He.int_ok X G (H.c.fact 24 rfl); ⟨_, .int 8, e, ⟨t, rfl⟩, rfl, fun _ _ => rep_int⟩
theorem co_MOST_ROWS (H : Hd w K mg base) : GloN ⟨P, w, mg, base, Wk K, qn⟩ "MOST_ROWS" (.int 20) := let ⟨_, X, G⟩ := H.ns; let ⟨t, e⟩ := He.int_ok X G (H.c.fact 25 rfl); ⟨_, .int 20, e, ⟨t, rfl⟩, rfl, fun _ _ => rep_int⟩
theorem co_MOST_RULES (H : Hd w K mg base) : GloN ⟨P, w, mg, base, Wk K, qn⟩ "MOST_RULES" (.int 8) := let ⟨_, X, G⟩ := H.ns; let ⟨t, e⟩ := He.int_ok X G (H.c.fact 26 rfl); ⟨_, .int 8, e, ⟨t, rfl⟩, rfl, fun _ _ => rep_int⟩
theorem co_MOST_STRUCK (H : Hd w K mg base) : GloN ⟨P, w, mg, base, Wk K, qn⟩ "MOST_STRUCK" (.int 10) := let ⟨_, X, G⟩ := H.ns; let ⟨t, e⟩ := He.int_ok X G (H.c.fact 27 rfl); ⟨_, .int 10, e, ⟨t, rfl⟩, rfl, fun _ _ => rep_int⟩
theorem gl_InvalidCases (H : Hd w K mg base) : mg "InvalidCases" = some (.ref (He.ga K "InvalidCases")) := let ⟨_, X, G⟩ := H.ns; He.glo_ok X G (H.c.fact 28 rfl)
theorem gl_InvalidOffers (H : Hd w K mg base) : mg "InvalidOffers" = some (.ref (He.ga K "InvalidOffers")) := let ⟨_, X, G⟩ := H.ns; He.glo_ok X G (H.c.fact 29 rfl)
theorem gl_InvalidLot (H : Hd w K mg base) : mg "InvalidLot" = some (.ref (He.ga K "InvalidLot")) := let ⟨_, X, G⟩ := H.ns; He.glo_ok X G (H.c.fact 30 rfl)
theorem gl_NotACourt (H : Hd w K mg base) : mg "NotACourt" = some (.ref (He.ga K "NotACourt")) := let ⟨_, X, G⟩ := H.ns; He.glo_ok X G (H.c.fact 31 rfl)
theorem gl_NotACase (H : Hd w K mg base) : mg "NotACase" = some (.ref (He.ga K "NotACase")) := let ⟨_, X, G⟩ := H.ns; He.glo_ok X G (H.c.fact 32 rfl)
theorem gl_NotABook (H : Hd w K mg base) : mg "NotABook" = some (.ref (He.ga K "NotABook")) := let ⟨_, X, G⟩ := H.ns; He.glo_ok X G (H.c.fact 33 rfl)
theorem gl_UnknownName (H : Hd w K mg base) : mg "UnknownName" = some (.ref (He.ga K "UnknownName")) := let ⟨_, X, G⟩ := H.ns; He.glo_ok X G (H.c.fact 34 rfl)
theorem gl_InvalidRule (H : Hd w K mg base) : mg "InvalidRule" = some (.ref (He.ga K "InvalidRule")) := let ⟨_, X, G⟩ := H.ns; He.glo_ok X G (H.c.fact 35 rfl)
theorem gl_InvalidRanking (H : Hd w K mg base) : mg "InvalidRanking" = some (.ref (He.ga K "InvalidRanking")) := let ⟨_, X, G⟩ := H.ns; He.glo_ok X G (H.c.fact 36 rfl)
theorem gl_InvalidRow (H : Hd w K mg base) : mg "InvalidRow" = some (.ref (He.ga K "InvalidRow")) := let ⟨_, X, G⟩ := H.ns; He.glo_ok X G (H.c.fact 37 rfl)
theorem gl_InvalidClaim (H : Hd w K mg base) : mg "InvalidClaim" = some (.ref (He.ga K "InvalidClaim")) := let ⟨_, X, G⟩ := H.ns; He.glo_ok X G (H.c.fact 38 rfl)
theorem gl_InvalidIndex (H : Hd w K mg base) : mg "InvalidIndex" = some (.ref (He.ga K "InvalidIndex")) := let ⟨_, X, G⟩ := H.ns; He.glo_ok X G (H.c.fact 39 rfl)
theorem gl_InvalidName (H : Hd w K mg base) : mg "InvalidName" = some (.ref (He.ga K "InvalidName")) := let ⟨_, X, G⟩ := H.ns; He.glo_ok X G (H.c.fact 40 rfl)
theorem gl_InvalidNumber (H : Hd w K mg base) : mg "InvalidNumber" = some (.ref (He.ga K "InvalidNumber")) := let ⟨_, X, G⟩ := H.ns; He.glo_ok X G (H.c.fact 41 rfl)
theorem gl_InvalidText (H : Hd w K mg base) : mg "InvalidText" = some (.ref (He.ga K "InvalidText")) := let ⟨_, X, G⟩ := H.ns; He.glo_ok X G (H.c.fact 42 rfl)
theorem gl_NothingToUndo (H : Hd w K mg base) : mg "NothingToUndo" = some (.ref (He.ga K "NothingToUndo")) := let ⟨_, X, G⟩ := H.ns; He.glo_ok X G (H.c.fact 43 rfl)
theorem gl_InUse (H : Hd w K mg base) : mg "InUse" = some (.ref (He.ga K "InUse")) := let ⟨_, X, G⟩ := H.ns; He.glo_ok X G (H.c.fact 44 rfl)
theorem gl_Broken (H : Hd w K mg base) : mg "Broken" = some (.ref (He.ga K "Broken")) := let ⟨_, X, G⟩ := H.ns; He.glo_ok X G (H.c.fact 45 rfl)
theorem gl_TooMany (H : Hd w K mg base) : mg "TooMany" = some (.ref (He.ga K "TooMany")) := let ⟨_, X, G⟩ := H.ns; He.glo_ok X G (H.c.fact 46 rfl)
theorem gl_NoRanking (H : Hd w K mg base) : mg "NoRanking" = some (.ref (He.ga K "NoRanking")) := let ⟨_, X, G⟩ := H.ns; He.glo_ok X G (H.c.fact 47 rfl)
theorem gl_NoAnswer (H : Hd w K mg base) : mg "NoAnswer" = some (.ref (He.ga K "NoAnswer")) := let ⟨_, X, G⟩ := H.ns; He.glo_ok X G (H.c.fact 48 rfl)
theorem gl_WrongValue (H : Hd w K mg base) : mg "WrongValue" = some (.ref (He.ga K "WrongValue")) := let ⟨_, X, G⟩ := H.ns; He.glo_ok X G (H.c.fact 49 rfl)
theorem xt_InvalidCases (H : Hd w K mg base) : ExT K (He.ga K "InvalidCases") := by
  have h := H.ex
  unfold ex at h
  simp only [Bool.and_eq_true, decide_eq_true_eq] at h
  exact exB_ok h.1.1
theorem xcn_InvalidCases (H : Hd w K mg base) : XcN1 ⟨P, w, mg, base, Wk K, qn⟩ "InvalidCases" 19 1 := by
  have h := H.ex
  unfold ex at h
  simp only [Bool.and_eq_true, decide_eq_true_eq] at h
  exact xc1_ok (f := "index") (G := ⟨P, w, mg, base, Wk K, qn⟩) h.1.1 h.1.2 (gl_InvalidCases H) rfl (by decide) (show 1 < 17 by decide) rfl
theorem xt_InvalidOffers (H : Hd w K mg base) : ExT K (He.ga K "InvalidOffers") := by
  have h := H.ex
  unfold ex at h
  simp only [Bool.and_eq_true, decide_eq_true_eq] at h
  exact exB_ok h.2.1.1
theorem xcn_InvalidOffers (H : Hd w K mg base) : XcN1 ⟨P, w, mg, base, Wk K, qn⟩ "InvalidOffers" 18 1 := by
  have h := H.ex
  unfold ex at h
  simp only [Bool.and_eq_true, decide_eq_true_eq] at h
  exact xc1_ok (f := "index") (G := ⟨P, w, mg, base, Wk K, qn⟩) h.2.1.1 h.2.1.2 (gl_InvalidOffers H) rfl (by decide) (show 1 < 17 by decide) rfl
theorem xt_InvalidLot (H : Hd w K mg base) : ExT K (He.ga K "InvalidLot") := by
  have h := H.ex
  unfold ex at h
  simp only [Bool.and_eq_true, decide_eq_true_eq] at h
  exact exB_ok h.2.2.1.1
theorem xcn_InvalidLot (H : Hd w K mg base) : XcN1 ⟨P, w, mg, base, Wk K, qn⟩ "InvalidLot" 17 1 := by
  have h := H.ex
  unfold ex at h
  simp only [Bool.and_eq_true, decide_eq_true_eq] at h
  exact xc1_ok (f := "index") (G := ⟨P, w, mg, base, Wk K, qn⟩) h.2.2.1.1 h.2.2.1.2 (gl_InvalidLot H) rfl (by decide) (show 1 < 17 by decide) rfl
theorem xt_NotACourt (H : Hd w K mg base) : ExT K (He.ga K "NotACourt") := by
  have h := H.ex
  unfold ex at h
  simp only [Bool.and_eq_true, decide_eq_true_eq] at h
  exact exB_ok h.2.2.2.1.1
theorem xcn_NotACourt (H : Hd w K mg base) : XcN1 ⟨P, w, mg, base, Wk K, qn⟩ "NotACourt" 16 0 := by
  have h := H.ex
  unfold ex at h
  simp only [Bool.and_eq_true, decide_eq_true_eq] at h
  exact xc1_ok (f := "given") (G := ⟨P, w, mg, base, Wk K, qn⟩) h.2.2.2.1.1 h.2.2.2.1.2 (gl_NotACourt H) rfl (by decide) (show 0 < 17 by decide) rfl
theorem xt_NotACase (H : Hd w K mg base) : ExT K (He.ga K "NotACase") := by
  have h := H.ex
  unfold ex at h
  simp only [Bool.and_eq_true, decide_eq_true_eq] at h
  exact exB_ok h.2.2.2.2.1.1
theorem xcn_NotACase (H : Hd w K mg base) : XcN1 ⟨P, w, mg, base, Wk K, qn⟩ "NotACase" 15 0 := by
  have h := H.ex
  unfold ex at h
  simp only [Bool.and_eq_true, decide_eq_true_eq] at h
  exact xc1_ok (f := "given") (G := ⟨P, w, mg, base, Wk K, qn⟩) h.2.2.2.2.1.1 h.2.2.2.2.1.2 (gl_NotACase H) rfl (by decide) (show 0 < 17 by decide) rfl
theorem xt_NotABook (H : Hd w K mg base) : ExT K (He.ga K "NotABook") := by
  have h := H.ex
  unfold ex at h
  simp only [Bool.and_eq_true, decide_eq_true_eq] at h
  exact exB_ok h.2.2.2.2.2.1.1
theorem xcn_NotABook (H : Hd w K mg base) : XcN1 ⟨P, w, mg, base, Wk K, qn⟩ "NotABook" 14 0 := by
  have h := H.ex
  unfold ex at h
  simp only [Bool.and_eq_true, decide_eq_true_eq] at h
  exact xc1_ok (f := "given") (G := ⟨P, w, mg, base, Wk K, qn⟩) h.2.2.2.2.2.1.1 h.2.2.2.2.2.1.2 (gl_NotABook H) rfl (by decide) (show 0 < 17 by decide) rfl
theorem xt_UnknownName (H : Hd w K mg base) : ExT K (He.ga K "UnknownName") := by
  have h := H.ex
  unfold ex at h
  simp only [Bool.and_eq_true, decide_eq_true_eq] at h
  exact exB_ok h.2.2.2.2.2.2.1.1
theorem xcn_UnknownName (H : Hd w K mg base) : XcN1 ⟨P, w, mg, base, Wk K, qn⟩ "UnknownName" 13 0 := by
  have h := H.ex
  unfold ex at h
  simp only [Bool.and_eq_true, decide_eq_true_eq] at h
  exact xc1_ok (f := "given") (G := ⟨P, w, mg, base, Wk K, qn⟩) h.2.2.2.2.2.2.1.1 h.2.2.2.2.2.2.1.2 (gl_UnknownName H) rfl (by decide) (show 0 < 17 by decide) rfl
theorem xt_InvalidRule (H : Hd w K mg base) : ExT K (He.ga K "InvalidRule") := by
  have h := H.ex
  unfold ex at h
  simp only [Bool.and_eq_true, decide_eq_true_eq] at h
  exact exB_ok h.2.2.2.2.2.2.2.1.1
theorem xcn_InvalidRule (H : Hd w K mg base) : XcN1 ⟨P, w, mg, base, Wk K, qn⟩ "InvalidRule" 12 0 := by
  have h := H.ex
  unfold ex at h
  simp only [Bool.and_eq_true, decide_eq_true_eq] at h
  exact xc1_ok (f := "given") (G := ⟨P, w, mg, base, Wk K, qn⟩) h.2.2.2.2.2.2.2.1.1 h.2.2.2.2.2.2.2.1.2 (gl_InvalidRule H) rfl (by decide) (show 0 < 17 by decide) rfl
theorem xt_InvalidRanking (H : Hd w K mg base) : ExT K (He.ga K "InvalidRanking") := by
  have h := H.ex
  unfold ex at h
  simp only [Bool.and_eq_true, decide_eq_true_eq] at h
  exact exB_ok h.2.2.2.2.2.2.2.2.1.1
theorem xcn_InvalidRanking (H : Hd w K mg base) : XcN1 ⟨P, w, mg, base, Wk K, qn⟩ "InvalidRanking" 11 0 := by
  have h := H.ex
  unfold ex at h
  simp only [Bool.and_eq_true, decide_eq_true_eq] at h
  exact xc1_ok (f := "given") (G := ⟨P, w, mg, base, Wk K, qn⟩) h.2.2.2.2.2.2.2.2.1.1 h.2.2.2.2.2.2.2.2.1.2 (gl_InvalidRanking H) rfl (by decide) (show 0 < 17 by decide) rfl
theorem xt_InvalidRow (H : Hd w K mg base) : ExT K (He.ga K "InvalidRow") := by
  have h := H.ex
  unfold ex at h
  simp only [Bool.and_eq_true, decide_eq_true_eq] at h
  exact exB_ok h.2.2.2.2.2.2.2.2.2.1.1
theorem xcn_InvalidRow (H : Hd w K mg base) : XcN1 ⟨P, w, mg, base, Wk K, qn⟩ "InvalidRow" 10 0 := by
  have h := H.ex
  unfold ex at h
  simp only [Bool.and_eq_true, decide_eq_true_eq] at h
  exact xc1_ok (f := "given") (G := ⟨P, w, mg, base, Wk K, qn⟩) h.2.2.2.2.2.2.2.2.2.1.1 h.2.2.2.2.2.2.2.2.2.1.2 (gl_InvalidRow H) rfl (by decide) (show 0 < 17 by decide) rfl
theorem xt_InvalidClaim (H : Hd w K mg base) : ExT K (He.ga K "InvalidClaim") := by
  have h := H.ex
  unfold ex at h
  simp only [Bool.and_eq_true, decide_eq_true_eq] at h
  exact exB_ok h.2.2.2.2.2.2.2.2.2.2.1.1
theorem xcn_InvalidClaim (H : Hd w K mg base) : XcN1 ⟨P, w, mg, base, Wk K, qn⟩ "InvalidClaim" 9 0 := by
  have h := H.ex
  unfold ex at h
  simp only [Bool.and_eq_true, decide_eq_true_eq] at h
  exact xc1_ok (f := "given") (G := ⟨P, w, mg, base, Wk K, qn⟩) h.2.2.2.2.2.2.2.2.2.2.1.1 h.2.2.2.2.2.2.2.2.2.2.1.2 (gl_InvalidClaim H) rfl (by decide) (show 0 < 17 by decide) rfl
theorem xt_InvalidIndex (H : Hd w K mg base) : ExT K (He.ga K "InvalidIndex") := by
  have h := H.ex
  unfold ex at h
  simp only [Bool.and_eq_true, decide_eq_true_eq] at h
  exact exB_ok h.2.2.2.2.2.2.2.2.2.2.2.1.1
theorem xcn_InvalidIndex (H : Hd w K mg base) : XcN1 ⟨P, w, mg, base, Wk K, qn⟩ "InvalidIndex" 8 0 := by
  have h := H.ex
  unfold ex at h
  simp only [Bool.and_eq_true, decide_eq_true_eq] at h
  exact xc1_ok (f := "given") (G := ⟨P, w, mg, base, Wk K, qn⟩) h.2.2.2.2.2.2.2.2.2.2.2.1.1 h.2.2.2.2.2.2.2.2.2.2.2.1.2 (gl_InvalidIndex H) rfl (by decide) (show 0 < 17 by decide) rfl
theorem xt_InvalidName (H : Hd w K mg base) : ExT K (He.ga K "InvalidName") := by
  have h := H.ex
  unfold ex at h
  simp only [Bool.and_eq_true, decide_eq_true_eq] at h
  exact exB_ok h.2.2.2.2.2.2.2.2.2.2.2.2.1.1
theorem xcn_InvalidName (H : Hd w K mg base) : XcN1 ⟨P, w, mg, base, Wk K, qn⟩ "InvalidName" 7 0 := by
  have h := H.ex
  unfold ex at h
  simp only [Bool.and_eq_true, decide_eq_true_eq] at h
  exact xc1_ok (f := "given") (G := ⟨P, w, mg, base, Wk K, qn⟩) h.2.2.2.2.2.2.2.2.2.2.2.2.1.1 h.2.2.2.2.2.2.2.2.2.2.2.2.1.2 (gl_InvalidName H) rfl (by decide) (show 0 < 17 by decide) rfl
theorem xt_InvalidNumber (H : Hd w K mg base) : ExT K (He.ga K "InvalidNumber") := by
  have h := H.ex
  unfold ex at h
  simp only [Bool.and_eq_true, decide_eq_true_eq] at h
  exact exB_ok h.2.2.2.2.2.2.2.2.2.2.2.2.2.1.1
theorem xcn_InvalidNumber (H : Hd w K mg base) : XcN1 ⟨P, w, mg, base, Wk K, qn⟩ "InvalidNumber" 6 0 := by
  have h := H.ex
  unfold ex at h
  simp only [Bool.and_eq_true, decide_eq_true_eq] at h
  exact xc1_ok (f := "given") (G := ⟨P, w, mg, base, Wk K, qn⟩) h.2.2.2.2.2.2.2.2.2.2.2.2.2.1.1 h.2.2.2.2.2.2.2.2.2.2.2.2.2.1.2 (gl_InvalidNumber H) rfl (by decide) (show 0 < 17 by decide) rfl
theorem xt_InvalidText (H : Hd w K mg base) : ExT K (He.ga K "InvalidText") := by
  have h := H.ex
  unfold ex at h
  simp only [Bool.and_eq_true, decide_eq_true_eq] at h
  exact exB_ok h.2.2.2.2.2.2.2.2.2.2.2.2.2.2.1.1
theorem xcn_InvalidText (H : Hd w K mg base) : XcN1 ⟨P, w, mg, base, Wk K, qn⟩ "InvalidText" 5 0 := by
  have h := H.ex
  unfold ex at h
  simp only [Bool.and_eq_true, decide_eq_true_eq] at h
  exact xc1_ok (f := "given") (G := ⟨P, w, mg, base, Wk K, qn⟩) h.2.2.2.2.2.2.2.2.2.2.2.2.2.2.1.1 h.2.2.2.2.2.2.2.2.2.2.2.2.2.2.1.2 (gl_InvalidText H) rfl (by decide) (show 0 < 17 by decide) rfl
theorem xt_NothingToUndo (H : Hd w K mg base) : ExT K (He.ga K "NothingToUndo") := by
  have h := H.ex
  unfold ex at h
  simp only [Bool.and_eq_true, decide_eq_true_eq] at h
  exact exB_ok h.2.2.2.2.2.2.2.2.2.2.2.2.2.2.2.1.1
theorem xcn_NothingToUndo (H : Hd w K mg base) : XcN0 ⟨P, w, mg, base, Wk K, qn⟩ "NothingToUndo" 24 := by
  have h := H.ex
  unfold ex at h
  simp only [Bool.and_eq_true, decide_eq_true_eq] at h
  exact xc0_ok (G := ⟨P, w, mg, base, Wk K, qn⟩) h.2.2.2.2.2.2.2.2.2.2.2.2.2.2.2.1.1 h.2.2.2.2.2.2.2.2.2.2.2.2.2.2.2.1.2 (gl_NothingToUndo H) rfl
theorem xt_InUse (H : Hd w K mg base) : ExT K (He.ga K "InUse") := by
  have h := H.ex
  unfold ex at h
  simp only [Bool.and_eq_true, decide_eq_true_eq] at h
  exact exB_ok h.2.2.2.2.2.2.2.2.2.2.2.2.2.2.2.2.1.1
theorem xcn_InUse (H : Hd w K mg base) : XcN1 ⟨P, w, mg, base, Wk K, qn⟩ "InUse" 23 1 := by
  have h := H.ex
  unfold ex at h
  simp only [Bool.and_eq_true, decide_eq_true_eq] at h
  exact xc1_ok (f := "index") (G := ⟨P, w, mg, base, Wk K, qn⟩) h.2.2.2.2.2.2.2.2.2.2.2.2.2.2.2.2.1.1 h.2.2.2.2.2.2.2.2.2.2.2.2.2.2.2.2.1.2 (gl_InUse H) rfl (by decide) (show 1 < 17 by decide) rfl
theorem xt_Broken (H : Hd w K mg base) : ExT K (He.ga K "Broken") := by
  have h := H.ex
  unfold ex at h
  simp only [Bool.and_eq_true, decide_eq_true_eq] at h
  exact exB_ok h.2.2.2.2.2.2.2.2.2.2.2.2.2.2.2.2.2.1.1
theorem xcn2_Broken (H : Hd w K mg base) : XcN2 ⟨P, w, mg, base, Wk K, qn⟩ "Broken" 22 1 3 := by
  have h := H.ex
  unfold ex at h
  simp only [Bool.and_eq_true, decide_eq_true_eq] at h
  exact xc2_ok (G := ⟨P, w, mg, base, Wk K, qn⟩) (xt_Broken H) h.2.2.2.2.2.2.2.2.2.2.2.2.2.2.2.2.2.1.2 (gl_Broken H) rfl (show 1 < 17 by decide) rfl (show 3 < 17 by decide) rfl
theorem xt_TooMany (H : Hd w K mg base) : ExT K (He.ga K "TooMany") := by
  have h := H.ex
  unfold ex at h
  simp only [Bool.and_eq_true, decide_eq_true_eq] at h
  exact exB_ok h.2.2.2.2.2.2.2.2.2.2.2.2.2.2.2.2.2.2.1.1
theorem xcn_TooMany (H : Hd w K mg base) : XcN1 ⟨P, w, mg, base, Wk K, qn⟩ "TooMany" 21 2 := by
  have h := H.ex
  unfold ex at h
  simp only [Bool.and_eq_true, decide_eq_true_eq] at h
  exact xc1_ok (f := "number") (G := ⟨P, w, mg, base, Wk K, qn⟩) h.2.2.2.2.2.2.2.2.2.2.2.2.2.2.2.2.2.2.1.1 h.2.2.2.2.2.2.2.2.2.2.2.2.2.2.2.2.2.2.1.2 (gl_TooMany H) rfl (by decide) (show 2 < 17 by decide) rfl
theorem xt_NoRanking (H : Hd w K mg base) : ExT K (He.ga K "NoRanking") := by
  have h := H.ex
  unfold ex at h
  simp only [Bool.and_eq_true, decide_eq_true_eq] at h
  exact exB_ok h.2.2.2.2.2.2.2.2.2.2.2.2.2.2.2.2.2.2.2.1.1
theorem xcn_NoRanking (H : Hd w K mg base) : XcN0 ⟨P, w, mg, base, Wk K, qn⟩ "NoRanking" 20 := by
  have h := H.ex
  unfold ex at h
  simp only [Bool.and_eq_true, decide_eq_true_eq] at h
  exact xc0_ok (G := ⟨P, w, mg, base, Wk K, qn⟩) h.2.2.2.2.2.2.2.2.2.2.2.2.2.2.2.2.2.2.2.1.1 h.2.2.2.2.2.2.2.2.2.2.2.2.2.2.2.2.2.2.2.1.2 (gl_NoRanking H) rfl
theorem sys_ (H : Hd w K mg base) : SysD K := by
  have h := H.ex
  unfold ex at h
  simp only [Bool.and_eq_true, decide_eq_true_eq] at h
  exact sysB_ok h.2.2.2.2.2.2.2.2.2.2.2.2.2.2.2.2.2.2.2.2.2.1
theorem clsW : ∀ c C, (Wk K).cls c = some C → ∃ p ∈ cn, p.1 = c ∧ He.ga K p.2 = C := fun c C e => by
  replace e : (if c = 19 then some (He.ga K "InvalidCases") else if c = 18 then some (He.ga K "InvalidOffers") else if c = 17 then some (He.ga K "InvalidLot") else if c = 16 then some (He.ga K "NotACourt") else if c = 15 then some (He.ga K "NotACase") else if c = 14 then some (He.ga K "NotABook") else if c = 13 then some (He.ga K "UnknownName") else if c = 12 then some (He.ga K "InvalidRule") else if c = 11 then some (He.ga K "InvalidRanking") else if c = 10 then some (He.ga K "InvalidRow") else if c = 9 then some (He.ga K "InvalidClaim") else if c = 8 then some (He.ga K "InvalidIndex") else if c = 7 then some (He.ga K "InvalidName") else if c = 6 then some (He.ga K "InvalidNumber") else if c = 5 then some (He.ga K "InvalidText") else if c = 24 then some (He.ga K "NothingToUndo") else if c = 23 then some (He.ga K "InUse") else if c = 22 then some (He.ga K "Broken") else if c = 21 then some (He.ga K "TooMany") else if c = 20 then some (He.ga K "NoRanking") else none) = some C := e
  by_cases h19 : c = 19
  · rw [if_pos h19] at e; cases e; exact ⟨(19, ("InvalidCases" : Str)), List.mem_of_getElem? (show cn[0]? = some (19, ("InvalidCases" : Str)) from rfl), h19.symm, rfl⟩
  rw [if_neg h19] at e
  by_cases h18 : c = 18
  · rw [if_pos h18] at e; cases e; exact ⟨(18, ("InvalidOffers" : Str)), List.mem_of_getElem? (show cn[1]? = some (18, ("InvalidOffers" : Str)) from rfl), h18.symm, rfl⟩
  rw [if_neg h18] at e
  by_cases h17 : c = 17
  · rw [if_pos h17] at e; cases e; exact ⟨(17, ("InvalidLot" : Str)), List.mem_of_getElem? (show cn[2]? = some (17, ("InvalidLot" : Str)) from rfl), h17.symm, rfl⟩
  rw [if_neg h17] at e
  by_cases h16 : c = 16
  · rw [if_pos h16] at e; cases e; exact ⟨(16, ("NotACourt" : Str)), List.mem_of_getElem? (show cn[3]? = some (16, ("NotACourt" : Str)) from rfl), h16.symm, rfl⟩
  rw [if_neg h16] at e
  by_cases h15 : c = 15
  · rw [if_pos h15] at e; cases e; exact ⟨(15, ("NotACase" : Str)), List.mem_of_getElem? (show cn[4]? = some (15, ("NotACase" : Str)) from rfl), h15.symm, rfl⟩
  rw [if_neg h15] at e
  by_cases h14 : c = 14
  · rw [if_pos h14] at e; cases e; exact ⟨(14, ("NotABook" : Str)), List.mem_of_getElem? (show cn[5]? = some (14, ("NotABook" : Str)) from rfl), h14.symm, rfl⟩
  rw [if_neg h14] at e
  by_cases h13 : c = 13
  · rw [if_pos h13] at e; cases e; exact ⟨(13, ("UnknownName" : Str)), List.mem_of_getElem? (show cn[6]? = some (13, ("UnknownName" : Str)) from rfl), h13.symm, rfl⟩
  rw [if_neg h13] at e
  by_cases h12 : c = 12
  · rw [if_pos h12] at e; cases e; exact ⟨(12, ("InvalidRule" : Str)), List.mem_of_getElem? (show cn[7]? = some (12, ("InvalidRule" : Str)) from rfl), h12.symm, rfl⟩
  rw [if_neg h12] at e
  by_cases h11 : c = 11
  · rw [if_pos h11] at e; cases e; exact ⟨(11, ("InvalidRanking" : Str)), List.mem_of_getElem? (show cn[8]? = some (11, ("InvalidRanking" : Str)) from rfl), h11.symm, rfl⟩
  rw [if_neg h11] at e
  by_cases h10 : c = 10
  · rw [if_pos h10] at e; cases e; exact ⟨(10, ("InvalidRow" : Str)), List.mem_of_getElem? (show cn[9]? = some (10, ("InvalidRow" : Str)) from rfl), h10.symm, rfl⟩
  rw [if_neg h10] at e
  by_cases h9 : c = 9
  · rw [if_pos h9] at e; cases e; exact ⟨(9, ("InvalidClaim" : Str)), List.mem_of_getElem? (show cn[10]? = some (9, ("InvalidClaim" : Str)) from rfl), h9.symm, rfl⟩
  rw [if_neg h9] at e
  by_cases h8 : c = 8
  · rw [if_pos h8] at e; cases e; exact ⟨(8, ("InvalidIndex" : Str)), List.mem_of_getElem? (show cn[11]? = some (8, ("InvalidIndex" : Str)) from rfl), h8.symm, rfl⟩
  rw [if_neg h8] at e
  by_cases h7 : c = 7
  · rw [if_pos h7] at e; cases e; exact ⟨(7, ("InvalidName" : Str)), List.mem_of_getElem? (show cn[12]? = some (7, ("InvalidName" : Str)) from rfl), h7.symm, rfl⟩
  rw [if_neg h7] at e
  by_cases h6 : c = 6
  · rw [if_pos h6] at e; cases e; exact ⟨(6, ("InvalidNumber" : Str)), List.mem_of_getElem? (show cn[13]? = some (6, ("InvalidNumber" : Str)) from rfl), h6.symm, rfl⟩
  rw [if_neg h6] at e
  by_cases h5 : c = 5
  · rw [if_pos h5] at e; cases e; exact ⟨(5, ("InvalidText" : Str)), List.mem_of_getElem? (show cn[14]? = some (5, ("InvalidText" : Str)) from rfl), h5.symm, rfl⟩
  rw [if_neg h5] at e
  by_cases h24 : c = 24
  · rw [if_pos h24] at e; cases e; exact ⟨(24, ("NothingToUndo" : Str)), List.mem_of_getElem? (show cn[15]? = some (24, ("NothingToUndo" : Str)) from rfl), h24.symm, rfl⟩
  rw [if_neg h24] at e
  by_cases h23 : c = 23
  · rw [if_pos h23] at e; cases e; exact ⟨(23, ("InUse" : Str)), List.mem_of_getElem? (show cn[16]? = some (23, ("InUse" : Str)) from rfl), h23.symm, rfl⟩
  rw [if_neg h23] at e
  by_cases h22 : c = 22
  · rw [if_pos h22] at e; cases e; exact ⟨(22, ("Broken" : Str)), List.mem_of_getElem? (show cn[17]? = some (22, ("Broken" : Str)) from rfl), h22.symm, rfl⟩
  rw [if_neg h22] at e
  by_cases h21 : c = 21
  · rw [if_pos h21] at e; cases e; exact ⟨(21, ("TooMany" : Str)), List.mem_of_getElem? (show cn[18]? = some (21, ("TooMany" : Str)) from rfl), h21.symm, rfl⟩
  rw [if_neg h21] at e
  by_cases h20 : c = 20
  · rw [if_pos h20] at e; cases e; exact ⟨(20, ("NoRanking" : Str)), List.mem_of_getElem? (show cn[19]? = some (20, ("NoRanking" : Str)) from rfl), h20.symm, rfl⟩
  rw [if_neg h20] at e
  cases e
theorem xtX (H : Hd w K mg base) : ∀ c C, isxG c = true → (Wk K).cls c = some C → ExT K C := fun c C hx e => by
  replace e : (if c = 19 then some (He.ga K "InvalidCases") else if c = 18 then some (He.ga K "InvalidOffers") else if c = 17 then some (He.ga K "InvalidLot") else if c = 16 then some (He.ga K "NotACourt") else if c = 15 then some (He.ga K "NotACase") else if c = 14 then some (He.ga K "NotABook") else if c = 13 then some (He.ga K "UnknownName") else if c = 12 then some (He.ga K "InvalidRule") else if c = 11 then some (He.ga K "InvalidRanking") else if c = 10 then some (He.ga K "InvalidRow") else if c = 9 then some (He.ga K "InvalidClaim") else if c = 8 then some (He.ga K "InvalidIndex") else if c = 7 then some (He.ga K "InvalidName") else if c = 6 then some (He.ga K "InvalidNumber") else if c = 5 then some (He.ga K "InvalidText") else if c = 24 then some (He.ga K "NothingToUndo") else if c = 23 then some (He.ga K "InUse") else if c = 22 then some (He.ga K "Broken") else if c = 21 then some (He.ga K "TooMany") else if c = 20 then some (He.ga K "NoRanking") else none) = some C := e
  by_cases h19 : c = 19
  · rw [if_pos h19] at e; cases e; exact xt_InvalidCases H
  rw [if_neg h19] at e
  by_cases h18 : c = 18
  · rw [if_pos h18] at e; cases e; exact xt_InvalidOffers H
  rw [if_neg h18] at e
  by_cases h17 : c = 17
  · rw [if_pos h17] at e; cases e; exact xt_InvalidLot H
  rw [if_neg h17] at e
  by_cases h16 : c = 16
  · rw [if_pos h16] at e; cases e; exact xt_NotACourt H
  rw [if_neg h16] at e
  by_cases h15 : c = 15
  · rw [if_pos h15] at e; cases e; exact xt_NotACase H
  rw [if_neg h15] at e
  by_cases h14 : c = 14
  · rw [if_pos h14] at e; cases e; exact xt_NotABook H
  rw [if_neg h14] at e
  by_cases h13 : c = 13
  · rw [if_pos h13] at e; cases e; exact xt_UnknownName H
  rw [if_neg h13] at e
  by_cases h12 : c = 12
  · rw [if_pos h12] at e; cases e; exact xt_InvalidRule H
  rw [if_neg h12] at e
  by_cases h11 : c = 11
  · rw [if_pos h11] at e; cases e; exact xt_InvalidRanking H
  rw [if_neg h11] at e
  by_cases h10 : c = 10
  · rw [if_pos h10] at e; cases e; exact xt_InvalidRow H
  rw [if_neg h10] at e
  by_cases h9 : c = 9
  · rw [if_pos h9] at e; cases e; exact xt_InvalidClaim H
  rw [if_neg h9] at e
  by_cases h8 : c = 8
  · rw [if_pos h8] at e; cases e; exact xt_InvalidIndex H
  rw [if_neg h8] at e
  by_cases h7 : c = 7
  · rw [if_pos h7] at e; cases e; exact xt_InvalidName H
  rw [if_neg h7] at e
  by_cases h6 : c = 6
  · rw [if_pos h6] at e; cases e; exact xt_InvalidNumber H
  rw [if_neg h6] at e
  by_cases h5 : c = 5
  · rw [if_pos h5] at e; cases e; exact xt_InvalidText H
  rw [if_neg h5] at e
  by_cases h24 : c = 24
  · rw [if_pos h24] at e; cases e; exact xt_NothingToUndo H
  rw [if_neg h24] at e
  by_cases h23 : c = 23
  · rw [if_pos h23] at e; cases e; exact xt_InUse H
  rw [if_neg h23] at e
  by_cases h22 : c = 22
  · rw [if_pos h22] at e; cases e; exact xt_Broken H
  rw [if_neg h22] at e
  by_cases h21 : c = 21
  · rw [if_pos h21] at e; cases e; exact xt_TooMany H
  rw [if_neg h21] at e
  by_cases h20 : c = 20
  · rw [if_pos h20] at e; cases e; exact xt_NoRanking H
  rw [if_neg h20] at e
  cases e
theorem kt_NoAnswer (H : Hd w K mg base) {c : Nat} {C : Addr} (e : (Wk K).cls c = some C) : PySem.W.kitOne K (.ref C) (.ref (He.ga K "NoAnswer")) = some (tbx [4, 20, 21, 22, 23, 24] c) := by
  have h := H.ex
  unfold ex at h
  simp only [Bool.and_eq_true, decide_eq_true_eq] at h
  exact kits_ok h.2.2.2.2.2.2.2.2.2.2.2.2.2.2.2.2.2.2.2.2.1 clsW (List.mem_of_getElem? (show kt[0]? = some (("NoAnswer" : Str), [4, 20, 21, 22, 23, 24]) from rfl)) e
theorem kt_WrongValue (H : Hd w K mg base) {c : Nat} {C : Addr} (e : (Wk K).cls c = some C) : PySem.W.kitOne K (.ref C) (.ref (He.ga K "WrongValue")) = some (tbx [3, 5, 6, 7, 8, 9, 10, 11, 12, 13, 14, 15, 16, 17, 18, 19] c) := by
  have h := H.ex
  unfold ex at h
  simp only [Bool.and_eq_true, decide_eq_true_eq] at h
  exact kits_ok h.2.2.2.2.2.2.2.2.2.2.2.2.2.2.2.2.2.2.2.2.1 clsW (List.mem_of_getElem? (show kt[1]? = some (("WrongValue" : Str), [3, 5, 6, 7, 8, 9, 10, 11, 12, 13, 14, 15, 16, 17, 18, 19]) from rfl)) e
theorem kt_NothingToUndo (H : Hd w K mg base) {c : Nat} {C : Addr} (e : (Wk K).cls c = some C) : PySem.W.kitOne K (.ref C) (.ref (He.ga K "NothingToUndo")) = some (tbx [24] c) := by
  have h := H.ex
  unfold ex at h
  simp only [Bool.and_eq_true, decide_eq_true_eq] at h
  exact kits_ok h.2.2.2.2.2.2.2.2.2.2.2.2.2.2.2.2.2.2.2.2.1 clsW (List.mem_of_getElem? (show kt[2]? = some (("NothingToUndo" : Str), [24]) from rfl)) e
theorem kt_InUse (H : Hd w K mg base) {c : Nat} {C : Addr} (e : (Wk K).cls c = some C) : PySem.W.kitOne K (.ref C) (.ref (He.ga K "InUse")) = some (tbx [23] c) := by
  have h := H.ex
  unfold ex at h
  simp only [Bool.and_eq_true, decide_eq_true_eq] at h
  exact kits_ok h.2.2.2.2.2.2.2.2.2.2.2.2.2.2.2.2.2.2.2.2.1 clsW (List.mem_of_getElem? (show kt[3]? = some (("InUse" : Str), [23]) from rfl)) e
theorem kt_Broken (H : Hd w K mg base) {c : Nat} {C : Addr} (e : (Wk K).cls c = some C) : PySem.W.kitOne K (.ref C) (.ref (He.ga K "Broken")) = some (tbx [22] c) := by
  have h := H.ex
  unfold ex at h
  simp only [Bool.and_eq_true, decide_eq_true_eq] at h
  exact kits_ok h.2.2.2.2.2.2.2.2.2.2.2.2.2.2.2.2.2.2.2.2.1 clsW (List.mem_of_getElem? (show kt[4]? = some (("Broken" : Str), [22]) from rfl)) e
theorem kt_TooMany (H : Hd w K mg base) {c : Nat} {C : Addr} (e : (Wk K).cls c = some C) : PySem.W.kitOne K (.ref C) (.ref (He.ga K "TooMany")) = some (tbx [21] c) := by
  have h := H.ex
  unfold ex at h
  simp only [Bool.and_eq_true, decide_eq_true_eq] at h
  exact kits_ok h.2.2.2.2.2.2.2.2.2.2.2.2.2.2.2.2.2.2.2.2.1 clsW (List.mem_of_getElem? (show kt[5]? = some (("TooMany" : Str), [21]) from rfl)) e
theorem kt_NoRanking (H : Hd w K mg base) {c : Nat} {C : Addr} (e : (Wk K).cls c = some C) : PySem.W.kitOne K (.ref C) (.ref (He.ga K "NoRanking")) = some (tbx [20] c) := by
  have h := H.ex
  unfold ex at h
  simp only [Bool.and_eq_true, decide_eq_true_eq] at h
  exact kits_ok h.2.2.2.2.2.2.2.2.2.2.2.2.2.2.2.2.2.2.2.2.1 clsW (List.mem_of_getElem? (show kt[6]? = some (("NoRanking" : Str), [20]) from rfl)) e
theorem kt_InvalidCases (H : Hd w K mg base) {c : Nat} {C : Addr} (e : (Wk K).cls c = some C) : PySem.W.kitOne K (.ref C) (.ref (He.ga K "InvalidCases")) = some (tbx [19] c) := by
  have h := H.ex
  unfold ex at h
  simp only [Bool.and_eq_true, decide_eq_true_eq] at h
  exact kits_ok h.2.2.2.2.2.2.2.2.2.2.2.2.2.2.2.2.2.2.2.2.1 clsW (List.mem_of_getElem? (show kt[7]? = some (("InvalidCases" : Str), [19]) from rfl)) e
theorem kt_InvalidOffers (H : Hd w K mg base) {c : Nat} {C : Addr} (e : (Wk K).cls c = some C) : PySem.W.kitOne K (.ref C) (.ref (He.ga K "InvalidOffers")) = some (tbx [18] c) := by
  have h := H.ex
  unfold ex at h
  simp only [Bool.and_eq_true, decide_eq_true_eq] at h
  exact kits_ok h.2.2.2.2.2.2.2.2.2.2.2.2.2.2.2.2.2.2.2.2.1 clsW (List.mem_of_getElem? (show kt[8]? = some (("InvalidOffers" : Str), [18]) from rfl)) e
theorem kt_InvalidLot (H : Hd w K mg base) {c : Nat} {C : Addr} (e : (Wk K).cls c = some C) : PySem.W.kitOne K (.ref C) (.ref (He.ga K "InvalidLot")) = some (tbx [17] c) := by
  have h := H.ex
  unfold ex at h
  simp only [Bool.and_eq_true, decide_eq_true_eq] at h
  exact kits_ok h.2.2.2.2.2.2.2.2.2.2.2.2.2.2.2.2.2.2.2.2.1 clsW (List.mem_of_getElem? (show kt[9]? = some (("InvalidLot" : Str), [17]) from rfl)) e
theorem kt_NotACourt (H : Hd w K mg base) {c : Nat} {C : Addr} (e : (Wk K).cls c = some C) : PySem.W.kitOne K (.ref C) (.ref (He.ga K "NotACourt")) = some (tbx [16] c) := by
  have h := H.ex
  unfold ex at h
  simp only [Bool.and_eq_true, decide_eq_true_eq] at h
  exact kits_ok h.2.2.2.2.2.2.2.2.2.2.2.2.2.2.2.2.2.2.2.2.1 clsW (List.mem_of_getElem? (show kt[10]? = some (("NotACourt" : Str), [16]) from rfl)) e
theorem kt_NotACase (H : Hd w K mg base) {c : Nat} {C : Addr} (e : (Wk K).cls c = some C) : PySem.W.kitOne K (.ref C) (.ref (He.ga K "NotACase")) = some (tbx [15] c) := by
  have h := H.ex
  unfold ex at h
  simp only [Bool.and_eq_true, decide_eq_true_eq] at h
  exact kits_ok h.2.2.2.2.2.2.2.2.2.2.2.2.2.2.2.2.2.2.2.2.1 clsW (List.mem_of_getElem? (show kt[11]? = some (("NotACase" : Str), [15]) from rfl)) e
theorem kt_NotABook (H : Hd w K mg base) {c : Nat} {C : Addr} (e : (Wk K).cls c = some C) : PySem.W.kitOne K (.ref C) (.ref (He.ga K "NotABook")) = some (tbx [14] c) := by
  have h := H.ex
  unfold ex at h
  simp only [Bool.and_eq_true, decide_eq_true_eq] at h
  exact kits_ok h.2.2.2.2.2.2.2.2.2.2.2.2.2.2.2.2.2.2.2.2.1 clsW (List.mem_of_getElem? (show kt[12]? = some (("NotABook" : Str), [14]) from rfl)) e
theorem kt_UnknownName (H : Hd w K mg base) {c : Nat} {C : Addr} (e : (Wk K).cls c = some C) : PySem.W.kitOne K (.ref C) (.ref (He.ga K "UnknownName")) = some (tbx [13] c) := by
  have h := H.ex
  unfold ex at h
  simp only [Bool.and_eq_true, decide_eq_true_eq] at h
  exact kits_ok h.2.2.2.2.2.2.2.2.2.2.2.2.2.2.2.2.2.2.2.2.1 clsW (List.mem_of_getElem? (show kt[13]? = some (("UnknownName" : Str), [13]) from rfl)) e
theorem kt_InvalidRule (H : Hd w K mg base) {c : Nat} {C : Addr} (e : (Wk K).cls c = some C) : PySem.W.kitOne K (.ref C) (.ref (He.ga K "InvalidRule")) = some (tbx [12] c) := by
  have h := H.ex
  unfold ex at h
  simp only [Bool.and_eq_true, decide_eq_true_eq] at h
  exact kits_ok h.2.2.2.2.2.2.2.2.2.2.2.2.2.2.2.2.2.2.2.2.1 clsW (List.mem_of_getElem? (show kt[14]? = some (("InvalidRule" : Str), [12]) from rfl)) e
theorem kt_InvalidRanking (H : Hd w K mg base) {c : Nat} {C : Addr} (e : (Wk K).cls c = some C) : PySem.W.kitOne K (.ref C) (.ref (He.ga K "InvalidRanking")) = some (tbx [11] c) := by
  have h := H.ex
  unfold ex at h
  simp only [Bool.and_eq_true, decide_eq_true_eq] at h
  exact kits_ok h.2.2.2.2.2.2.2.2.2.2.2.2.2.2.2.2.2.2.2.2.1 clsW (List.mem_of_getElem? (show kt[15]? = some (("InvalidRanking" : Str), [11]) from rfl)) e
theorem kt_InvalidRow (H : Hd w K mg base) {c : Nat} {C : Addr} (e : (Wk K).cls c = some C) : PySem.W.kitOne K (.ref C) (.ref (He.ga K "InvalidRow")) = some (tbx [10] c) := by
  have h := H.ex
  unfold ex at h
  simp only [Bool.and_eq_true, decide_eq_true_eq] at h
  exact kits_ok h.2.2.2.2.2.2.2.2.2.2.2.2.2.2.2.2.2.2.2.2.1 clsW (List.mem_of_getElem? (show kt[16]? = some (("InvalidRow" : Str), [10]) from rfl)) e
theorem kt_InvalidClaim (H : Hd w K mg base) {c : Nat} {C : Addr} (e : (Wk K).cls c = some C) : PySem.W.kitOne K (.ref C) (.ref (He.ga K "InvalidClaim")) = some (tbx [9] c) := by
  have h := H.ex
  unfold ex at h
  simp only [Bool.and_eq_true, decide_eq_true_eq] at h
  exact kits_ok h.2.2.2.2.2.2.2.2.2.2.2.2.2.2.2.2.2.2.2.2.1 clsW (List.mem_of_getElem? (show kt[17]? = some (("InvalidClaim" : Str), [9]) from rfl)) e
theorem kt_InvalidIndex (H : Hd w K mg base) {c : Nat} {C : Addr} (e : (Wk K).cls c = some C) : PySem.W.kitOne K (.ref C) (.ref (He.ga K "InvalidIndex")) = some (tbx [8] c) := by
  have h := H.ex
  unfold ex at h
  simp only [Bool.and_eq_true, decide_eq_true_eq] at h
  exact kits_ok h.2.2.2.2.2.2.2.2.2.2.2.2.2.2.2.2.2.2.2.2.1 clsW (List.mem_of_getElem? (show kt[18]? = some (("InvalidIndex" : Str), [8]) from rfl)) e
theorem kt_InvalidName (H : Hd w K mg base) {c : Nat} {C : Addr} (e : (Wk K).cls c = some C) : PySem.W.kitOne K (.ref C) (.ref (He.ga K "InvalidName")) = some (tbx [7] c) := by
  have h := H.ex
  unfold ex at h
  simp only [Bool.and_eq_true, decide_eq_true_eq] at h
  exact kits_ok h.2.2.2.2.2.2.2.2.2.2.2.2.2.2.2.2.2.2.2.2.1 clsW (List.mem_of_getElem? (show kt[19]? = some (("InvalidName" : Str), [7]) from rfl)) e
theorem kt_InvalidNumber (H : Hd w K mg base) {c : Nat} {C : Addr} (e : (Wk K).cls c = some C) : PySem.W.kitOne K (.ref C) (.ref (He.ga K "InvalidNumber")) = some (tbx [6] c) := by
  have h := H.ex
  unfold ex at h
  simp only [Bool.and_eq_true, decide_eq_true_eq] at h
  exact kits_ok h.2.2.2.2.2.2.2.2.2.2.2.2.2.2.2.2.2.2.2.2.1 clsW (List.mem_of_getElem? (show kt[20]? = some (("InvalidNumber" : Str), [6]) from rfl)) e
theorem kt_InvalidText (H : Hd w K mg base) {c : Nat} {C : Addr} (e : (Wk K).cls c = some C) : PySem.W.kitOne K (.ref C) (.ref (He.ga K "InvalidText")) = some (tbx [5] c) := by
  have h := H.ex
  unfold ex at h
  simp only [Bool.and_eq_true, decide_eq_true_eq] at h
  exact kits_ok h.2.2.2.2.2.2.2.2.2.2.2.2.2.2.2.2.2.2.2.2.1 clsW (List.mem_of_getElem? (show kt[21]? = some (("InvalidText" : Str), [5]) from rfl)) e
theorem kb_ArithmeticError (H : Hd w K mg base) {c : Nat} {C : Addr} (e : (Wk K).cls c = some C) : PySem.W.kitOne K (.ref C) (.type "ArithmeticError") = some (tbx [4, 20, 21, 22, 23, 24] c) := by
  have h := H.ex
  unfold ex at h
  simp only [Bool.and_eq_true, decide_eq_true_eq] at h
  exact kitb_ok h.2.2.2.2.2.2.2.2.2.2.2.2.2.2.2.2.2.2.2.2.2.2 clsW (List.mem_of_getElem? (show kb[0]? = some (("ArithmeticError" : String), [4, 20, 21, 22, 23, 24]) from rfl)) e
theorem kb_ValueError (H : Hd w K mg base) {c : Nat} {C : Addr} (e : (Wk K).cls c = some C) : PySem.W.kitOne K (.ref C) (.type "ValueError") = some (tbx [3, 5, 6, 7, 8, 9, 10, 11, 12, 13, 14, 15, 16, 17, 18, 19] c) := by
  have h := H.ex
  unfold ex at h
  simp only [Bool.and_eq_true, decide_eq_true_eq] at h
  exact kitb_ok h.2.2.2.2.2.2.2.2.2.2.2.2.2.2.2.2.2.2.2.2.2.2 clsW (List.mem_of_getElem? (show kb[1]? = some (("ValueError" : String), [3, 5, 6, 7, 8, 9, 10, 11, 12, 13, 14, 15, 16, 17, 18, 19]) from rfl)) e
theorem nd_law_flags_k1 (H : Hd w K mg base) : needSs ⟨P, w, mg, base, Wk K, ("_law_flags" : Str) ++ ".<locals>."⟩ 0 ir_law_flags_k1 := by
  unfold ir_law_flags_k1
  simp only [needSs, needS, needE, needEs, needF, needI, needO, needG, needGs, needP, nE_tell, nE_e, and_true, true_and]
  repeat' (with_reducible apply And.intro)
  all_goals first
    | exact addN
    | exact fr_enumerate H
    | exact fr_isinstance H
    | exact fr_len H
    | exact fr_range H
    | exact fr_repr H
    | exact isXO (fr_isinstance H) (gl_Broken H) (fun c C e _ => kt_Broken H e) (xtX H)
    | exact isXO (fr_isinstance H) (gl_InUse H) (fun c C e _ => kt_InUse H e) (xtX H)
    | exact isXO (fr_isinstance H) (gl_InvalidCases H) (fun c C e _ => kt_InvalidCases H e) (xtX H)
    | exact isXO (fr_isinstance H) (gl_InvalidClaim H) (fun c C e _ => kt_InvalidClaim H e) (xtX H)
    | exact isXO (fr_isinstance H) (gl_InvalidIndex H) (fun c C e _ => kt_InvalidIndex H e) (xtX H)
    | exact isXO (fr_isinstance H) (gl_InvalidLot H) (fun c C e _ => kt_InvalidLot H e) (xtX H)
    | exact isXO (fr_isinstance H) (gl_InvalidName H) (fun c C e _ => kt_InvalidName H e) (xtX H)
    | exact isXO (fr_isinstance H) (gl_InvalidNumber H) (fun c C e _ => kt_InvalidNumber H e) (xtX H)
    | exact isXO (fr_isinstance H) (gl_InvalidOffers H) (fun c C e _ => kt_InvalidOffers H e) (xtX H)
    | exact isXO (fr_isinstance H) (gl_InvalidRanking H) (fun c C e _ => kt_InvalidRanking H e) (xtX H)
    | exact isXO (fr_isinstance H) (gl_InvalidRow H) (fun c C e _ => kt_InvalidRow H e) (xtX H)
    | exact isXO (fr_isinstance H) (gl_InvalidRule H) (fun c C e _ => kt_InvalidRule H e) (xtX H)
    | exact isXO (fr_isinstance H) (gl_InvalidText H) (fun c C e _ => kt_InvalidText H e) (xtX H)
    | exact isXO (fr_isinstance H) (gl_NoRanking H) (fun c C e _ => kt_NoRanking H e) (xtX H)
    | exact isXO (fr_isinstance H) (gl_NotABook H) (fun c C e _ => kt_NotABook H e) (xtX H)
    | exact isXO (fr_isinstance H) (gl_NotACase H) (fun c C e _ => kt_NotACase H e) (xtX H)
    | exact isXO (fr_isinstance H) (gl_NotACourt H) (fun c C e _ => kt_NotACourt H e) (xtX H)
    | exact isXO (fr_isinstance H) (gl_NothingToUndo H) (fun c C e _ => kt_NothingToUndo H e) (xtX H)
    | exact isXO (fr_isinstance H) (gl_TooMany H) (fun c C e _ => kt_TooMany H e) (xtX H)
    | exact isXO (fr_isinstance H) (gl_UnknownName H) (fun c C e _ => kt_UnknownName H e) (xtX H)
theorem fg_law_flags_k1 (H : Hd w K mg base) : ∃ fd, FunD K "_law_flags" "_law_flags" (defArgs s_law_flags_k1) (defBody s_law_flags_k1) (defScope s_law_flags_k1) [] [] (He.ga K "_law_flags") fd ∧ FnG P w K mg base 1 (He.ga K "_law_flags") fd P_law_flags_k1 (spD (Wk K) 1 m_law_flags_k1) ∧ Binds K fd P_law_flags_k1 [] := by
  obtain ⟨fd, F⟩ := H.c.def_ 0 (d := d_law_flags_k1) rfl
  replace F : FunD K "_law_flags" "_law_flags" (defArgs s_law_flags_k1) (defBody s_law_flags_k1) (defScope s_law_flags_k1) [] [] (He.ga K "_law_flags") fd := F
  exact ⟨fd, F, fn_ok (W := Wk K) rfl F sc_law_flags_k1 rfl (by decide) ck_law_flags_k1 (nd_law_flags_k1 H) (cdOk_nil rfl), F.bindsN fun _ _ _ _ _ _ us hl => match us, hl with | [_], _ => rfl⟩
theorem cal_law_flags_k1 (H : Hd w K mg base) : Cal P w K mg base (Wk K) 1 "_law_flags" 1 m_law_flags_k1 := by
  obtain ⟨fd, F, G, b⟩ := fg_law_flags_k1 (P := P) (w := w) (base := base) H
  exact ⟨_, fd, _, G, gl_law_flags_k1 H, F.kp, b⟩
theorem nd_law_firsts (H : Hd w K mg base) : needSs ⟨P, w, mg, base, Wk K, ("_law_firsts" : Str) ++ ".<locals>."⟩ 0 ir_law_firsts := by
  unfold ir_law_firsts
  simp only [needSs, needS, needE, needEs, needF, needI, needO, needG, needGs, needP, nE_tell, nE_e, and_true, true_and]
  repeat' (with_reducible apply And.intro)
  all_goals first
    | exact addN
    | exact fr_enumerate H
    | exact fr_isinstance H
    | exact fr_len H
    | exact fr_range H
    | exact fr_repr H
    | exact xd1N (xcn_InvalidCases H) rfl
    | exact xd1N (xcn_InvalidClaim H) rfl
    | exact xd1N (xcn_InvalidIndex H) rfl
    | exact xd1N (xcn_InvalidLot H) rfl
    | exact xd1N (xcn_InvalidName H) rfl
    | exact xd1N (xcn_InvalidNumber H) rfl
    | exact xd1N (xcn_InvalidOffers H) rfl
    | exact xd1N (xcn_InvalidRanking H) rfl
    | exact xd1N (xcn_InvalidRow H) rfl
    | exact xd1N (xcn_InvalidRule H) rfl
    | exact xd1N (xcn_InvalidText H) rfl
    | exact xd1N (xcn_NotABook H) rfl
    | exact xd1N (xcn_NotACase H) rfl
    | exact xd1N (xcn_NotACourt H) rfl
    | exact xd1N (xcn_UnknownName H) rfl
theorem fg_law_firsts (H : Hd w K mg base) : ∃ fd, FunD K "_law_firsts" "_law_firsts" (defArgs s_law_firsts) (defBody s_law_firsts) (defScope s_law_firsts) [] [] (He.ga K "_law_firsts") fd ∧ FnG P w K mg base 1 (He.ga K "_law_firsts") fd P_law_firsts (spD (Wk K) 1 m_law_firsts) ∧ Binds K fd P_law_firsts [] := by
  obtain ⟨fd, F⟩ := H.c.def_ 1 (d := d_law_firsts) rfl
  replace F : FunD K "_law_firsts" "_law_firsts" (defArgs s_law_firsts) (defBody s_law_firsts) (defScope s_law_firsts) [] [] (He.ga K "_law_firsts") fd := F
  exact ⟨fd, F, fn_ok (W := Wk K) rfl F sc_law_firsts rfl (by decide) ck_law_firsts (nd_law_firsts H) (cdOk_nil rfl), F.bindsN fun _ _ _ _ _ _ us hl => match us, hl with | [_], _ => rfl⟩
theorem cal_law_firsts (H : Hd w K mg base) : Cal P w K mg base (Wk K) 1 "_law_firsts" 1 m_law_firsts := by
  obtain ⟨fd, F, G, b⟩ := fg_law_firsts (P := P) (w := w) (base := base) H
  exact ⟨_, fd, _, G, gl_law_firsts H, F.kp, b⟩
theorem nd_law_seconds (H : Hd w K mg base) : needSs ⟨P, w, mg, base, Wk K, ("_law_seconds" : Str) ++ ".<locals>."⟩ 0 ir_law_seconds := by
  unfold ir_law_seconds
  simp only [needSs, needS, needE, needEs, needF, needI, needO, needG, needGs, needP, nE_tell, nE_e, and_true, true_and]
  repeat' (with_reducible apply And.intro)
  all_goals first
    | exact addN
    | exact fr_enumerate H
    | exact fr_isinstance H
    | exact fr_len H
    | exact fr_range H
    | exact fr_repr H
    | exact xd0N (xcn_NoRanking H)
    | exact xd0N (xcn_NothingToUndo H)
    | exact xd1N (xcn_InUse H) rfl
    | exact xd1N (xcn_TooMany H) rfl
    | exact xd2N (xcn2_Broken H)
theorem fg_law_seconds (H : Hd w K mg base) : ∃ fd, FunD K "_law_seconds" "_law_seconds" (defArgs s_law_seconds) (defBody s_law_seconds) (defScope s_law_seconds) [] [] (He.ga K "_law_seconds") fd ∧ FnG P w K mg base 1 (He.ga K "_law_seconds") fd P_law_seconds (spD (Wk K) 1 m_law_seconds) ∧ Binds K fd P_law_seconds [] := by
  obtain ⟨fd, F⟩ := H.c.def_ 2 (d := d_law_seconds) rfl
  replace F : FunD K "_law_seconds" "_law_seconds" (defArgs s_law_seconds) (defBody s_law_seconds) (defScope s_law_seconds) [] [] (He.ga K "_law_seconds") fd := F
  exact ⟨fd, F, fn_ok (W := Wk K) rfl F sc_law_seconds rfl (by decide) ck_law_seconds (nd_law_seconds H) (cdOk_nil rfl), F.bindsN fun _ _ _ _ _ _ us hl => match us, hl with | [_], _ => rfl⟩
theorem cal_law_seconds (H : Hd w K mg base) : Cal P w K mg base (Wk K) 1 "_law_seconds" 1 m_law_seconds := by
  obtain ⟨fd, F, G, b⟩ := fg_law_seconds (P := P) (w := w) (base := base) H
  exact ⟨_, fd, _, G, gl_law_seconds H, F.kp, b⟩
theorem nd_law_draw (H : Hd w K mg base) : needSs ⟨P, w, mg, base, Wk K, ("_law_draw" : Str) ++ ".<locals>."⟩ 0 ir_law_draw := by
  unfold ir_law_draw
  simp only [needSs, needS, needE, needEs, needF, needI, needO, needG, needGs, needP, and_true, true_and]
  repeat' (with_reducible apply And.intro)
  all_goals first
    | exact addN
    | exact mulN
    | exact fdivN
    | exact modN
    | exact gtN
    | exact ixN1
    | exact intN
    | exact divmodN
    | exact fr_divmod H
    | exact fr_enumerate H
    | exact fr_int H
    | exact fr_isinstance H
    | exact fr_len H
    | exact fr_range H
    | exact fr_repr H
theorem fg_law_draw (H : Hd w K mg base) : ∃ fd, FunD K "_law_draw" "_law_draw" (defArgs s_law_draw) (defBody s_law_draw) (defScope s_law_draw) [] [] (He.ga K "_law_draw") fd ∧ FnG P w K mg base 1 (He.ga K "_law_draw") fd P_law_draw (spD (Wk K) 2 m_law_draw) ∧ Binds K fd P_law_draw [] := by
  obtain ⟨fd, F⟩ := H.c.def_ 3 (d := d_law_draw) rfl
  replace F : FunD K "_law_draw" "_law_draw" (defArgs s_law_draw) (defBody s_law_draw) (defScope s_law_draw) [] [] (He.ga K "_law_draw") fd := F
  exact ⟨fd, F, fn_ok (W := Wk K) rfl F sc_law_draw rfl (by decide) ck_law_draw (nd_law_draw H) (cdOk_nil rfl), F.bindsN fun _ _ _ _ _ _ us hl => match us, hl with | [_, _], _ => rfl⟩
theorem cal_law_draw (H : Hd w K mg base) : Cal P w K mg base (Wk K) 1 "_law_draw" 2 m_law_draw := by
  obtain ⟨fd, F, G, b⟩ := fg_law_draw (P := P) (w := w) (base := base) H
  exact ⟨_, fd, _, G, gl_law_draw H, F.kp, b⟩
theorem nd_law_thing_v1 (H : Hd w K mg base) : needSs ⟨P, w, mg, base, Wk K, ("_law_thing" : Str) ++ ".<locals>."⟩ 1 ir_law_thing_v1 := by
  unfold ir_law_thing_v1
  simp only [needSs, needS, needE, needEs, needF, needI, needO, needG, needGs, needP, and_true, true_and]
  repeat' (with_reducible apply And.intro)
  all_goals first
    | exact powN
    | exact ixN1
    | exact negN
    | exact fr_enumerate H
    | exact fr_isinstance H
    | exact fr_len H
    | exact fr_range H
    | exact fr_repr H
    | exact ⟨1, by decide, cal_law_draw H⟩
    | exact dicN
theorem fg_law_thing_v1 (H : Hd w K mg base) : ∃ fd, FunD K "_law_thing" "_law_thing" (defArgs s_law_thing_v1) (defBody s_law_thing_v1) (defScope s_law_thing_v1) [] [] (He.ga K "_law_thing") fd ∧ FnG P w K mg base 2 (He.ga K "_law_thing") fd P_law_thing_v1 (spD (Wk K) 1 m_law_thing_v1) ∧ Binds K fd P_law_thing_v1 [] := by
  obtain ⟨fd, F⟩ := H.c.def_ 4 (d := d_law_thing_v1) rfl
  replace F : FunD K "_law_thing" "_law_thing" (defArgs s_law_thing_v1) (defBody s_law_thing_v1) (defScope s_law_thing_v1) [] [] (He.ga K "_law_thing") fd := F
  exact ⟨fd, F, fn_ok (W := Wk K) rfl F sc_law_thing_v1 rfl (by decide) ck_law_thing_v1 (nd_law_thing_v1 H) (cdOk_nil rfl), F.bindsN fun _ _ _ _ _ _ us hl => match us, hl with | [_], _ => rfl⟩
theorem cal_law_thing_v1 (H : Hd w K mg base) : Cal P w K mg base (Wk K) 2 "_law_thing" 1 m_law_thing_v1 := by
  obtain ⟨fd, F, G, b⟩ := fg_law_thing_v1 (P := P) (w := w) (base := base) H
  exact ⟨_, fd, _, G, gl_law_thing_v1 H, F.kp, b⟩
theorem nd_law_right (H : Hd w K mg base) : needSs ⟨P, w, mg, base, Wk K, ("_law_right" : Str) ++ ".<locals>."⟩ 2 ir_law_right := by
  unfold ir_law_right
  simp only [law_right_b0, law_right_b1, law_right_c0, law_right_c1, law_right_c2, law_right_c3, needSs, needS, needE, needEs, needF, needI, needO, needG, needGs, needP, nE_tell, nE_e, and_true, true_and]
  repeat' (with_reducible apply And.intro)
  all_goals first
    | exact addN
    | exact mulN
    | exact neN
    | exact ltN
    | exact ixN1
    | exact slN1
    | exact lcountN
    | exact fr_ArithmeticError H
    | exact fr_ValueError H
    | exact fr_enumerate H
    | exact fr_isinstance H
    | exact fr_len H
    | exact fr_range H
    | exact fr_repr H
    | exact ⟨1, by decide, cal_law_firsts H⟩
    | exact ⟨1, by decide, cal_law_flags_k1 H⟩
    | exact ⟨1, by decide, cal_law_seconds H⟩
    | exact ⟨2, by decide, cal_law_thing_v1 H⟩
    | exact reprYN (sys_ H)
    | exact xfldN (k := 0) (show 0 < 17 by decide) rfl injW (xtX H)
    | exact xfldN (k := 1) (show 1 < 17 by decide) rfl injW (xtX H)
    | exact xfldN (k := 2) (show 2 < 17 by decide) rfl injW (xtX H)
    | exact xfldN (k := 3) (show 3 < 17 by decide) rfl injW (xtX H)
    | exact isXO (fr_isinstance H) (gl_NoAnswer H) (fun c C e _ => kt_NoAnswer H e) (xtX H)
    | exact isXO (fr_isinstance H) (gl_WrongValue H) (fun c C e _ => kt_WrongValue H e) (xtX H)
    | exact isXB (fr_isinstance H) (fr_ArithmeticError H) (show bootBuiltins "ArithmeticError" = some (.type "ArithmeticError") by decide +kernel) (by decide) (fun c C e _ => kb_ArithmeticError H e) (xtX H)
    | exact isXB (fr_isinstance H) (fr_ValueError H) (show bootBuiltins "ValueError" = some (.type "ValueError") by decide +kernel) (by decide) (fun c C e _ => kb_ValueError H e) (xtX H)
    | exact enumN (fr_enumerate H)
theorem fg_law_right (H : Hd w K mg base) : ∃ fd, FunD K "_law_right" "_law_right" (defArgs s_law_right) (defBody s_law_right) (defScope s_law_right) [] [] (He.ga K "_law_right") fd ∧ FnG P w K mg base 3 (He.ga K "_law_right") fd P_law_right (spD (Wk K) 1 m_law_right) ∧ Binds K fd P_law_right [] := by
  obtain ⟨fd, F⟩ := H.c.def_ 5 (d := d_law_right) rfl
  replace F : FunD K "_law_right" "_law_right" (defArgs s_law_right) (defBody s_law_right) (defScope s_law_right) [] [] (He.ga K "_law_right") fd := F
  exact ⟨fd, F, fn_ok (W := Wk K) rfl F sc_law_right rfl (by decide) ck_law_right (nd_law_right H) (cdOk_nil rfl), F.bindsN fun _ _ _ _ _ _ us hl => match us, hl with | [_], _ => rfl⟩
theorem cal_law_right (H : Hd w K mg base) : Cal P w K mg base (Wk K) 3 "_law_right" 1 m_law_right := by
  obtain ⟨fd, F, G, b⟩ := fg_law_right (P := P) (w := w) (base := base) H
  exact ⟨_, fd, _, G, gl_law_right H, F.kp, b⟩
theorem nd_law_purse (H : Hd w K mg base) : needSs ⟨P, w, mg, base, Wk K, ("_law_purse" : Str) ++ ".<locals>."⟩ 0 ir_law_purse := by
  unfold ir_law_purse
  simp only [law_purse_b0, needSs, needS, needE, needEs, needF, needI, needO, needG, needGs, needP, and_true, true_and]
  repeat' (with_reducible apply And.intro)
  all_goals first
    | exact addN
    | exact mulN
    | exact modN
    | exact powN
    | exact ltN
    | exact geN
    | exact ixN1
    | exact slN1
    | exact lenN
    | exact absN
    | exact intN
    | exact fr_abs H
    | exact fr_enumerate H
    | exact fr_int H
    | exact fr_isinstance H
    | exact fr_len H
    | exact fr_range H
    | exact fr_repr H
theorem fg_law_purse (H : Hd w K mg base) : ∃ fd, FunD K "_law_purse" "_law_purse" (defArgs s_law_purse) (defBody s_law_purse) (defScope s_law_purse) [] [] (He.ga K "_law_purse") fd ∧ FnG P w K mg base 1 (He.ga K "_law_purse") fd P_law_purse (spD (Wk K) 2 m_law_purse) ∧ Binds K fd P_law_purse [] := by
  obtain ⟨fd, F⟩ := H.c.def_ 6 (d := d_law_purse) rfl
  replace F : FunD K "_law_purse" "_law_purse" (defArgs s_law_purse) (defBody s_law_purse) (defScope s_law_purse) [] [] (He.ga K "_law_purse") fd := F
  exact ⟨fd, F, fn_ok (W := Wk K) rfl F sc_law_purse rfl (by decide) ck_law_purse (nd_law_purse H) (cdOk_nil rfl), F.bindsN fun _ _ _ _ _ _ us hl => match us, hl with | [_, _], _ => rfl⟩
theorem cal_law_purse (H : Hd w K mg base) : Cal P w K mg base (Wk K) 1 "_law_purse" 2 m_law_purse := by
  obtain ⟨fd, F, G, b⟩ := fg_law_purse (P := P) (w := w) (base := base) H
  exact ⟨_, fd, _, G, gl_law_purse H, F.kp, b⟩
theorem nd_law (H : Hd w K mg base) : needSs ⟨P, w, mg, base, Wk K, ("law" : Str) ++ ".<locals>."⟩ 3 ir_law := by
  unfold ir_law
  simp only [law_c0, needSs, needS, needE, needEs, needF, needI, needO, needG, needGs, needP, nE_tell, nE_e, and_true, true_and]
  repeat' (with_reducible apply And.intro)
  all_goals first
    | exact neN
    | exact lenN
    | exact allN
    | exact max2N
    | exact min2N
    | exact fr_all H
    | exact fr_enumerate H
    | exact fr_isinstance H
    | exact fr_len H
    | exact fr_max H
    | exact fr_min H
    | exact fr_range H
    | exact fr_repr H
    | exact co_MOST_CANDIDATES H
    | exact co_MOST_CASES H
    | exact co_MOST_MARKS H
    | exact co_MOST_OFFERS H
    | exact co_MOST_ROWS H
    | exact co_MOST_RULES H
    | exact co_MOST_STRUCK H
    | exact ⟨1, by decide, cal_law_purse H⟩
    | exact ⟨3, by decide, cal_law_right H⟩
end
end KK
set_option Elab.async false
set_option linter.all false
set_option maxRecDepth 100000
set_option maxHeartbeats 0
namespace KK
open PySem PySem.Spec PyProof.Rows L2 DE
theorem ob_eq (s : PySem.W.SharedT) : ob s = hk.obs s.abs := obsL_eq (HandSHeadRun.getT_eq s)
end KK
namespace KK
open PySem PySem.Spec PyProof.Rows L2 DE PySem.W PySem.Calls
/-- the law, from the equation about its def's meaning -/
theorem glue (hg : ∀ ns : List Int, ns.length ≤ 63 → (∀ z ∈ ns, Builtin.Int.intBits z ≤ 1048576) → ∃ S, m_law [.lst (ns.map .int)] [] = some (.bl true, S)) : PySem.Challenge.rw_rankedrules_k01_constants_and_errors.Holds := by
  w_on; o_law
  refine HandSHeadRun.head_any (r := OpenLaw.row PySem.Challenge.rw_rankedrules_k01_constants_and_errors) (q := view (OpenLaw.row PySem.Challenge.rw_rankedrules_k01_constants_and_errors).prog [38]) (H := hk) (ob := ob) (M := 9000) (loose := loose) (d := HandSHeadRun.topDef (OpenLaw.row PySem.Challenge.rw_rankedrules_k01_constants_and_errors).prog 38) (kwd := []) ob_eq
    (by kernel_rfl) (fun s => by kernel_rfl) run (by kernel_rfl) (by kernel_rfl) (by kernel_rfl) (by rfl) (by first | assumption | decide +kernel) (by decide +kernel) ⟨rfl, rfl, rfl, rfl, rfl, by decide +kernel⟩ ?hw ?hc
  case hw => w_witness2
  case hc =>
    refine walk_GT (l := PySem.Challenge.rw_rankedrules_k01_constants_and_errors) (n := 63) (k := 4) (x := "_law_script") (g := m_law) rfl (by decide) (by kernel_rfl) ⟨rfl, by decide, by decide⟩ ?F hg
    intro w mg fa h Y G hmg0
    obtain ⟨K, KX, c⟩ := Y
    have hmg : mg ("law" : PySem.Str) = some (.ref fa) := by
      have e : (HandSHeadRun.topDef (OpenLaw.row PySem.Challenge.rw_rankedrules_k01_constants_and_errors).prog 38).name = ("law" : PySem.Str) := by kernel_rfl
      rw [← e]
      exact hmg0
    have e := hmg.symm.trans (He.glo_ok KX G (c.t.d.fact 7 rfl))
    cases e
    obtain ⟨fd, F⟩ := c.t.d.def_ 7 (d := d_law) rfl
    have b := FunD.bindsA (ps := P_law) F fun _ _ _ _ _ _ us hl => match us, hl with | [_], _ => rfl
    exact ⟨K, Wk K, fd, tfs.map (He.cT K), rfl, fun t ht => (by obtain ⟨d, hd, rfl⟩ := List.mem_map.mp ht; exact ⟨_, List.mem_map.mpr ⟨_, List.mem_map.mpr ⟨d, hd, rfl⟩, rfl⟩, rfl⟩), fun p hp => (by obtain ⟨q, hq, rfl⟩ := List.mem_map.mp hp; exact c.empty q hq), fun p hp => (by obtain ⟨q, hq, rfl⟩ := List.mem_map.mp hp; exact c.out q hq), fun p hp => (by obtain ⟨q, hq, rfl⟩ := List.mem_map.mp hp; exact PySem.W.codeHd_of_K KX (c.hd q hq)), KX, fun s v => b s [v] rfl, fun base _ _ htb => fn_ok (W := Wk K) rfl F sc_law rfl (by decide) ck_law (nd_law (base := base) ⟨c.t.d, c.more, fun i t h => c.t.tab i h, ⟨h, KX, G⟩, fun p hp => htb _ (List.mem_map.mpr ⟨p, hp, rfl⟩)⟩) (cdOk_no (by kernel_rfl))⟩
end KK
open PySem PySem.W PyProof.Rows
set_option Elab.async false
set_option maxRecDepth 100000 in
set_option maxHeartbeats 0 in
theorem PySem.Challenge.cw_rankedrules_k01_constants_and_errors_holds : PySem.Challenge.rw_rankedrules_k01_constants_and_errors.Holds := by
  exact KK.glue fun ns h hb => KK.law01 ns h
