import PyProof.Rows.All
import Wide.All
import OpenK.AllK
import Wide.FinOn
import KE.KStateDown
import HandS.ForMost
import HandS.Wide
import HandS.Style
import HandS.Flow
import HandS.Conv
import HandS.Defaults
import HandS.DictComp
import HandS.RaiseMore
import HandS.Deep
import HandS.HeadHook1
import HandS.HeadHook2
import PySem.Challenge.RW_anypasses_k53_weights
import HandS.Walk
import KE.GoesMore
import KE.KDictZip
import KE.DataMinMax
import KE.KDictList
import HandS.SortKw
import HandS.Dict
import PyProof.ReprRoads
import HandS.Lambda
import KE.SortKeyHeap
import HandS.HeadHook4
import HandS.EndTab
import HandS.Exc
import HandS.HeadEnd
import HandS.HeadHook3
import HandS.HeadWalk
import HandS.Head0
import HandS.Head1
import HandS.Head2
/-! text D1 -/
set_option Elab.async false
set_option linter.all false
set_option maxRecDepth 100000
set_option maxHeartbeats 1000000
/-! data of a program as values without addresses, and the readings of the layer over them -/
namespace Dl
open PySem PySem.Spec PyProof.Rows L2
abbrev PD := PyData
def nStar : Expr → Bool
  | .Starred _ _ => false
  | _ => true
theorem star_cons {e : Expr} {es : List Expr} {env : Env} (h : nStar e = true) : starEach (e :: es) env = (false, eval e env) :: starEach es env := by
  cases e <;> first | rfl | cases h
theorem back_plain {pos : Pos} {env : Env} : ∀ {es : List Expr}, es.all nStar = true → (backTo pos (starEach es env)).any (·.1) = false
  | [], _ => rfl
  | e :: es, h => by
    rw [List.all_cons, Bool.and_eq_true] at h
    rw [star_cons h.1]
    have ih := back_plain (pos := pos) (env := env) h.2
    unfold backTo at ih ⊢
    cases hs : starEach es env <;> simp_all
/-- a key as data -/
def kD : Key → PyData
  | .inl i => .int i
  | .inr x => .str x
/-! ### data at values -/
def KT (K : PySem.W.Frag) (a : Addr) (xs : List V) : Prop :=
  ∃ (o : Obj) (its : Array Value) (n : Nat), K.lookup a = some o ∧ o.cls = .type "tuple" ∧ o.data = .seq its n ∧ its.size ≤ sizeLine ∧ Vals xs its.toList
def TupAt (K : PySem.W.Frag) (S : List Addr) (H : Hp) (a : Addr) (xs : List V) : Prop := (a ∉ S ∧ H a = some (.tup xs)) ∨ KT K a xs
theorem TupAt.sq {K : PySem.W.Frag} {S : List Addr} {H : Hp} {a : Addr} {xs : List V} (h : TupAt K S H a xs) : SqT K H a xs := by
  rcases h with ⟨_, h⟩ | h
  · exact .inl (.inl h)
  · exact .inr h
mutual
def Rp (K : PySem.W.Frag) (S : List Addr) (H : Hp) : PyData → V → Prop
  | .none, v => v = .non
  | .bool b, v => v = .bl b
  | .int i, v => v = .int i
  | .str x, v => v = .str x
  | .tuple ds, v => ∃ a xs, v = .ref a ∧ TupAt K S H a xs ∧ Rps K S H ds xs
  | .list ds, v => ∃ a xs, v = .ref a ∧ (a ∉ S ∧ H a = some (.lst xs)) ∧ Rps K S H ds xs
  | .dict m, v => ∃ a kvs, v = .ref a ∧ (a ∉ S ∧ Rd H a (.dK kvs)) ∧ Rpm K S H m kvs
def Rps (K : PySem.W.Frag) (S : List Addr) (H : Hp) : List PyData → List V → Prop
  | [], vs => vs = []
  | d :: ds, vs => ∃ v vs', vs = v :: vs' ∧ Rp K S H d v ∧ Rps K S H ds vs'
def Rpm (K : PySem.W.Frag) (S : List Addr) (H : Hp) : List (PyData × PyData) → List (Key × V) → Prop
  | [], kvs => kvs = []
  | (kd, d) :: m, kvs => ∃ k v r, kvs = (k, v) :: r ∧ kd = kD k ∧ Rp K S H d v ∧ Rpm K S H m r
end
section
variable {K : PySem.W.Frag} {S S' : List Addr} {H H' : Hp}
/-- what stands outside of S stays, and stays outside of S' -/
def Mv (S S' : List Addr) (H H' : Hp) : Prop := ∀ a o, H a = some o → a ∉ S → H' a = some o ∧ a ∉ S'
mutual
theorem Rp.mv (m : Mv S S' H H') : ∀ {d : PyData} {v : V}, Rp K S H d v → Rp K S' H' d v
  | .none, _, h => h
  | .bool _, _, h => h
  | .int _, _, h => h
  | .str _, _, h => h
  | .tuple ds, v, h => by
    obtain ⟨a, xs, e, t, r⟩ := h
    refine ⟨a, xs, e, ?_, Rps.mv m r⟩
    rcases t with ⟨h1, h2⟩ | t
    · exact .inl ⟨(m a _ h2 h1).2, (m a _ h2 h1).1⟩
    · exact .inr t
  | .list ds, v, h => by
    obtain ⟨a, xs, e, ⟨h1, h2⟩, r⟩ := h
    exact ⟨a, xs, e, ⟨(m a _ h2 h1).2, (m a _ h2 h1).1⟩, Rps.mv m r⟩
  | .dict ds, v, h => by
    obtain ⟨a, xs, e, ⟨h1, h2⟩, r⟩ := h
    rcases h2 with h2 | ⟨o, h2⟩
    · exact ⟨a, xs, e, ⟨(m a _ h2 h1).2, .inl (m a _ h2 h1).1⟩, Rpm.mv m r⟩
    · exact ⟨a, xs, e, ⟨(m a _ h2 h1).2, .inr ⟨o, (m a _ h2 h1).1⟩⟩, Rpm.mv m r⟩
theorem Rps.mv (m : Mv S S' H H') : ∀ {ds : List PyData} {vs : List V}, Rps K S H ds vs → Rps K S' H' ds vs
  | [], _, h => h
  | d :: ds, vs, h => by
    obtain ⟨v, vs', e, h1, h2⟩ := h
    exact ⟨v, vs', e, Rp.mv m h1, Rps.mv m h2⟩
theorem Rpm.mv (m : Mv S S' H H') : ∀ {ds : List (PyData × PyData)} {vs : List (Key × V)}, Rpm K S H ds vs → Rpm K S' H' ds vs
  | [], _, h => h
  | (kd, d) :: ds, vs, h => by
    obtain ⟨k, v, r, e, h0, h1, h2⟩ := h
    exact ⟨k, v, r, e, h0, Rp.mv m h1, Rpm.mv m h2⟩
end
theorem Rps.len : ∀ {ds : List PyData} {vs : List V}, Rps K S H ds vs → vs.length = ds.length
  | [], _, h => by
    have h : _ = [] := h
    rw [h] <;> rfl
  | d :: ds, vs, h => by
    obtain ⟨v, vs', e, h1, h2⟩ := h
    rw [e, List.length_cons, List.length_cons, Rps.len h2]
theorem Rps.get : ∀ {ds : List PyData} {vs : List V}, Rps K S H ds vs → ∀ {i : Nat} {d : PyData}, ds[i]? = some d → ∃ v, vs[i]? = some v ∧ Rp K S H d v
  | [], _, h, i, d, e => by simp at e
  | d0 :: ds, vs, h, 0, d, e => by
    obtain ⟨v, vs', e1, h1, h2⟩ := h
    simp at e
    subst e e1
    exact ⟨v, rfl, h1⟩
  | d0 :: ds, vs, h, i + 1, d, e => by
    obtain ⟨v, vs', e1, h1, h2⟩ := h
    subst e1
    exact Rps.get h2 (i := i) (by simpa using e)
theorem Rps.getV : ∀ {ds : List PyData} {vs : List V}, Rps K S H ds vs → ∀ {i : Nat} {v : V}, vs[i]? = some v → ∃ d, ds[i]? = some d ∧ Rp K S H d v := fun {ds vs} h {i v} e => by
  have hi : i < vs.length := (List.getElem?_eq_some_iff.mp e).1
  have hi2 : i < ds.length := by rw [← h.len]; exact hi
  obtain ⟨v', e', r⟩ := h.get (List.getElem?_eq_getElem hi2)
  rw [e] at e'
  cases e'
  exact ⟨_, List.getElem?_eq_getElem hi2, r⟩
theorem Rps.app : ∀ {ds es : List PyData} {vs ws : List V}, Rps K S H ds vs → Rps K S H es ws → Rps K S H (ds ++ es) (vs ++ ws)
  | [], es, vs, ws, h, g => by
    have h : vs = [] := h
    subst h
    exact g
  | d :: ds, es, vs, ws, h, g => by
    obtain ⟨v, vs', e, h1, h2⟩ := h
    subst e
    exact ⟨v, vs' ++ ws, rfl, h1, Rps.app h2 g⟩
theorem Rps.cons {d : PyData} {v : V} {ds : List PyData} {vs : List V} (h : Rp K S H d v) (r : Rps K S H ds vs) : Rps K S H (d :: ds) (v :: vs) := ⟨v, vs, rfl, h, r⟩
theorem Rps.one {d : PyData} {v : V} (h : Rp K S H d v) : Rps K S H [d] [v] := .cons h rfl
theorem Rps.drop : ∀ (n : Nat) {ds : List PyData} {vs : List V}, Rps K S H ds vs → Rps K S H (ds.drop n) (vs.drop n)
  | 0, _, _, h => h
  | n + 1, [], vs, h => by
    have h : vs = [] := h
    subst h
    exact rfl
  | n + 1, d :: ds, vs, h => by
    obtain ⟨v, vs', e, h1, h2⟩ := h
    subst e
    exact Rps.drop n h2
theorem Rps.take : ∀ (n : Nat) {ds : List PyData} {vs : List V}, Rps K S H ds vs → Rps K S H (ds.take n) (vs.take n)
  | 0, ds, vs, h => by simp only [List.take_zero]; exact rfl
  | n + 1, [], vs, h => by
    have h : vs = [] := h
    subst h
    exact rfl
  | n + 1, d :: ds, vs, h => by
    obtain ⟨v, vs', e, h1, h2⟩ := h
    subst e
    exact ⟨v, vs'.take n, rfl, h1, Rps.take n h2⟩
theorem Rps.rev : ∀ {ds : List PyData} {vs : List V}, Rps K S H ds vs → Rps K S H ds.reverse vs.reverse
  | [], vs, h => by
    have h : vs = [] := h
    subst h
    exact rfl
  | d :: ds, vs, h => by
    obtain ⟨v, vs', e, h1, h2⟩ := h
    subst e
    rw [List.reverse_cons, List.reverse_cons]
    exact Rps.app (Rps.rev h2) (Rps.one h1)
theorem Rps.erase : ∀ (n : Nat) {ds : List PyData} {vs : List V}, Rps K S H ds vs → Rps K S H (ds.eraseIdx n) (vs.eraseIdx n)
  | n, [], vs, h => by
    have h : vs = [] := h
    subst h
    exact rfl
  | 0, d :: ds, vs, h => by
    obtain ⟨v, vs', e, h1, h2⟩ := h
    subst e
    exact h2
  | n + 1, d :: ds, vs, h => by
    obtain ⟨v, vs', e, h1, h2⟩ := h
    subst e
    exact ⟨v, vs'.eraseIdx n, rfl, h1, Rps.erase n h2⟩
theorem Rps.set : ∀ (n : Nat) {ds : List PyData} {vs : List V} {d : PyData} {v : V}, Rps K S H ds vs → Rp K S H d v → Rps K S H (ds.set n d) (vs.set n v)
  | n, [], vs, d, v, h, r => by
    have h : vs = [] := h
    subst h
    exact rfl
  | 0, d0 :: ds, vs, d, v, h, r => by
    obtain ⟨v0, vs', e, h1, h2⟩ := h
    subst e
    exact ⟨v, vs', rfl, r, h2⟩
  | n + 1, d0 :: ds, vs, d, v, h, r => by
    obtain ⟨v0, vs', e, h1, h2⟩ := h
    subst e
    exact ⟨v0, vs'.set n v, rfl, h1, Rps.set n h2 r⟩
theorem Rps.dropLast {ds : List PyData} {vs : List V} (h : Rps K S H ds vs) : Rps K S H ds.dropLast vs.dropLast := by
  rw [List.dropLast_eq_take, List.dropLast_eq_take, h.len]
  exact h.take _
theorem Rps.ints : ∀ {ns : List Int} {vs : List V}, Rps K S H (ns.map PyData.int) vs → vs = ns.map V.int
  | [], vs, h => h
  | n :: ns, vs, h => by
    obtain ⟨v, vs', e, h1, h2⟩ := h
    have h1 : v = .int n := h1
    rw [e, h1, Rps.ints h2]
    rfl
theorem Rps.of_ints : ∀ (ns : List Int), Rps K S H (ns.map PyData.int) (ns.map V.int)
  | [] => rfl
  | n :: ns => ⟨.int n, ns.map V.int, rfl, rfl, Rps.of_ints ns⟩
mutual
theorem Rp.dp : ∀ {d : PyData} {v : V}, d.canLay0 = true → Rp K S H d v → Dp K H v d
  | .none, _, _, h => by
    have h : _ = _ := h
    subst h; exact .non
  | .bool b, _, _, h => by
    have h : _ = _ := h
    subst h; exact .bl b
  | .int i, _, _, h => by
    have h : _ = _ := h
    subst h; exact .int i
  | .str x, _, _, h => by
    have h : _ = _ := h
    subst h; exact .str x
  | .tuple ds, v, c, h => by
    obtain ⟨a, xs, e, t, r⟩ := h
    subst e
    exact .tup t.sq (Rps.dp (by simpa [PyData.canLay0] using c) r)
  | .list ds, v, c, h => by
    obtain ⟨a, xs, e, ⟨h1, h2⟩, r⟩ := h
    subst e
    exact .lst (.inl (.inl h2)) (Rps.dp (by simpa [PyData.canLay0] using c) r)
  | .dict _, _, c, h => by simp [PyData.canLay0] at c
theorem Rps.dp : ∀ {ds : List PyData} {vs : List V}, PyData.canLayAll0 ds = true → Rps K S H ds vs → DpAll K H vs ds
  | [], vs, _, h => by
    have h : vs = [] := h
    subst h
    exact .nil
  | d :: ds, vs, c, h => by
    have c : (d.canLay0 && PyData.canLayAll0 ds) = true := by simpa [PyData.canLayAll0] using c
    rw [Bool.and_eq_true] at c
    obtain ⟨v, vs', e, h1, h2⟩ := h
    subst e
    exact .cons (Rp.dp c.1 h1) (Rps.dp c.2 h2)
end
/-- all but M stays -/
def Stp (M : List Addr) (H H' : Hp) : Prop := ∀ a o, H a = some o → a ∉ M → H' a = some o
theorem Stp.refl {M : List Addr} : Stp M H H := fun _ _ h _ => h
theorem Stp.trans {M : List Addr} {H1 H2 : Hp} (a : Stp M H H1) (b : Stp M H1 H2) : Stp M H H2 := fun c o h n => b c o (a c o h n) n
theorem Stp.mono {M N : List Addr} (a : Stp M H H') (h : ∀ x ∈ M, x ∈ N) : Stp N H H' := fun c o e n => a c o e fun z => n (h c z)
theorem Stp.nil {M : List Addr} (a : Stp [] H H') : Stp M H H' := a.mono fun x hx => by cases hx
theorem Stp.new {M : List Addr} {p : Addr} {o : HO} (h : H p = none) : Stp M H (upd H p o) := fun b x e _ => by
  rw [upd_ne (ne_of_none e h)]
  exact e
theorem Stp.wr {M : List Addr} {p : Addr} {o : HO} (h : p ∈ M) : Stp M H (upd H p o) := fun b x e n => by
  rw [upd_ne (fun z => n (by rw [z]; exact h))]
  exact e
theorem Stp.mv {M : List Addr} (a : Stp M H H') (h : ∀ x ∈ M, x ∈ S) : Mv S S H H' := fun b o e n => ⟨a b o e fun z => n (h b z), n⟩
theorem Mv.fresh {p : Addr} (h : H p = none) : Mv S (p :: S) H H := fun b o e n => ⟨e, fun z => by
  rcases List.mem_cons.mp z with z | z
  · rw [z, h] at e; cases e
  · exact n z⟩
theorem Mv.sub (h : ∀ x ∈ S', x ∈ S) : Mv S S' H H := fun b o e n => ⟨e, fun z => n (h b z)⟩
theorem Mv.trans {S1 S2 : List Addr} {H1 H2 : Hp} (a : Mv S S1 H H1) (b : Mv S1 S2 H1 H2) : Mv S S2 H H2 := fun c o e n => b c o (a c o e n).1 (a c o e n).2
def Trk (S : List Addr) (H : Hp) : Prop := ∀ a ∈ S, H a ≠ none
theorem Trk.out {p : Addr} (t : Trk S H) (h : H p = none) : p ∉ S := fun z => t p z h
theorem Trk.ext (t : Trk S H) (s : Stp [] H H') : Trk S H' := fun a ha z => by
  cases q : H a with
  | none => exact t a ha q
  | some o =>
    rw [s a o q (fun z => by cases z)] at z
    cases z
end
/-! ### the deal: a source of draws -/
def Deal (H : Hp) (dl cl : Addr) : Prop := dl ≠ cl ∧ ∃ (cs : List Int) (b : Int), H dl = some (.lst [.ref cl, .int b]) ∧ H cl = some (.lst (cs.map V.int)) ∧ cs.length ≤ 48 ∧ 0 ≤ b ∧ b < 2147483647
/-! ### what a body knows -/
inductive Sl where
  | u | v (x : V) | d (x : PyData)
inductive MO where
  | lst (ds : List PyData) | dct (m : List (Key × PyData)) | dlk (o : Obj) (kvs : List (Key × V)) (m : List (Key × PyData)) | tp (ss : List Sl)
section
variable (K : PySem.W.Frag) (S : List Addr) (H : Hp)
def SlOk : Option V → Sl → Prop
  | _, .u => True
  | o, .v x => o = some x
  | o, .d x => ∃ v, o = some v ∧ Rp K S H x v
def EnvOk : L2.St → List Sl → Prop
  | σ, [] => σ = []
  | σ, s :: δ => ∃ o σ', σ = o :: σ' ∧ SlOk K S H o s ∧ EnvOk σ' δ
def Rkv : List (Key × PyData) → List (Key × V) → Prop
  | [], kvs => kvs = []
  | p :: m, kvs => ∃ q r, kvs = (p.1, q) :: r ∧ Rp K S H p.2 q ∧ Rkv m r
def Obj1 (a : Addr) : MO → Prop
  | .lst ds => ∃ xs, H a = some (.lst xs) ∧ Rps K S H ds xs
  | .dct m => ∃ kvs, H a = some (.dK kvs) ∧ Rkv K S H m kvs
  | .dlk o kvs m => H a = some (.frz o (.dK kvs)) ∧ Rkv K S H m kvs
  | .tp ss => ∃ vs, H a = some (.tup vs) ∧ EnvOk K S H (vs.map some) ss
end
structure Wd where
  M0 : List Addr
  H0 : Hp
  M : List Addr
structure Ctx (K : PySem.W.Frag) (W : Wd) (S : List Addr) (G : List (Addr × MO)) (δ : List Sl) (σ : L2.St) (H : Hp) : Prop where
  env : EnvOk K S H σ δ
  deal : W.M = [] ∨ ∃ dl cl, W.M = [dl, cl] ∧ Deal H dl cl
  ms : ∀ a ∈ W.M, a ∈ S ∧ a ∈ W.M0
  objs : ∀ p ∈ G, Obj1 K S H p.1 p.2 ∧ p.1 ∈ S ∧ p.1 ∉ W.M ∧ (p.1 ∈ W.M0 ∨ W.H0 p.1 = none)
  trk : Trk S H
  fr : Stp W.M0 W.H0 H
section
variable {K : PySem.W.Frag} {W : Wd} {S S' : List Addr} {G : List (Addr × MO)} {δ : List Sl} {σ : L2.St} {H H' : Hp}
theorem SlOk.mv (m : Mv S S' H H') : ∀ {o : Option V} {s : Sl}, SlOk K S H o s → SlOk K S' H' o s
  | _, .u, _ => True.intro
  | _, .v _, h => h
  | _, .d _, ⟨v, e, r⟩ => ⟨v, e, r.mv m⟩
theorem EnvOk.mv (m : Mv S S' H H') : ∀ {σ : L2.St} {δ : List Sl}, EnvOk K S H σ δ → EnvOk K S' H' σ δ
  | _, [], h => h
  | _, _ :: _, ⟨o, σ', e, h1, h2⟩ => ⟨o, σ', e, h1.mv m, EnvOk.mv m h2⟩
theorem Rkv.mv (m : Mv S S' H H') : ∀ {l : List (Key × PyData)} {kvs : List (Key × V)}, Rkv K S H l kvs → Rkv K S' H' l kvs
  | [], _, h => h
  | _ :: _, _, ⟨q, r, e, h1, h2⟩ => ⟨q, r, e, h1.mv m, Rkv.mv m h2⟩
theorem EnvOk.get : ∀ {σ : L2.St} {δ : List Sl}, EnvOk K S H σ δ → ∀ {i : Nat} {s : Sl}, δ[i]? = some s → ∃ o, σ[i]? = some o ∧ SlOk K S H o s
  | _, [], h, i, s, e => by simp at e
  | _, s0 :: δ, ⟨o, σ', e, h1, h2⟩, 0, s, e' => by
    simp at e'
    subst e e'
    exact ⟨o, rfl, h1⟩
  | _, s0 :: δ, ⟨o, σ', e, h1, h2⟩, i + 1, s, e' => by
    subst e
    exact EnvOk.get h2 (i := i) (by simpa using e')
theorem EnvOk.len : ∀ {σ : L2.St} {δ : List Sl}, EnvOk K S H σ δ → σ.length = δ.length
  | _, [], h => by
    have h : _ = [] := h
    rw [h] <;> rfl
  | _, s0 :: δ, ⟨o, σ', e, h1, h2⟩ => by rw [e, List.length_cons, List.length_cons, EnvOk.len h2]
theorem EnvOk.set : ∀ {σ : L2.St} {δ : List Sl}, EnvOk K S H σ δ → ∀ (i : Nat) {o : Option V} {s : Sl}, SlOk K S H o s → EnvOk K S H (σ.set i o) (δ.set i s)
  | _, [], h, i, o, s, q => by
    have h : _ = [] := h
    subst h
    exact rfl
  | _, s0 :: δ, ⟨o, σ', e, h1, h2⟩, 0, o', s', q => by
    subst e
    exact ⟨o', σ', rfl, q, h2⟩
  | _, s0 :: δ, ⟨o, σ', e, h1, h2⟩, i + 1, o', s', q => by
    subst e
    exact ⟨o, σ'.set i o', rfl, h1, EnvOk.set h2 i q⟩
theorem Obj1.mv {a : Addr} (m : Mv S S' H H') (ha : ∀ o, H a = some o → H' a = some o) : ∀ {x : MO}, Obj1 K S H a x → Obj1 K S' H' a x
  | .lst ds, ⟨xs, e, r⟩ => ⟨xs, ha _ e, r.mv m⟩
  | .dct m', ⟨kvs, e, r⟩ => ⟨kvs, ha _ e, r.mv m⟩
  | .dlk o kvs m', ⟨e, r⟩ => ⟨ha _ e, r.mv m⟩
  | .tp ss, ⟨vs, e, r⟩ => ⟨vs, ha _ e, r.mv m⟩
theorem Ctx.mvS (C : Ctx K W S G δ σ H) {M : List Addr} (s : Stp M H H') (h : ∀ x ∈ M, x ∈ S) : Mv S S H H' := s.mv h
/-- what the deal does, and what is new -/
theorem Ctx.stp (C : Ctx K W S G δ σ H) (s : Stp W.M H H') (hd : ∀ dl cl, W.M = [dl, cl] → Deal H' dl cl) : Ctx K W S G δ σ H' := by
  have m : Mv S S H H' := s.mv fun x hx => (C.ms x hx).1
  refine ⟨C.env.mv m, ?_, C.ms, fun p hp => ?_, fun a ha z => ?_, C.fr.trans (s.mono fun x hx => (C.ms x hx).2)⟩
  · rcases C.deal with e | ⟨dl, cl, e, _⟩
    · exact .inl e
    · exact .inr ⟨dl, cl, e, hd dl cl e⟩
  · obtain ⟨h1, h2, h3, h4⟩ := C.objs p hp
    exact ⟨h1.mv m fun o e => s _ _ e h3, h2, h3, h4⟩
  · by_cases ham : a ∈ W.M
    · rcases C.deal with e | ⟨dl, cl, e, _⟩
      · rw [e] at ham; cases ham
      · obtain ⟨_, cs, b, h1, h2, _⟩ := hd dl cl e
        rw [e] at ham
        simp at ham
        rcases ham with rfl | rfl
        · rw [h1] at z; cases z
        · rw [h2] at z; cases z
    · cases q : H a with
      | none => exact C.trk a ha q
      | some o =>
        rw [s a o q ham] at z
        cases z
theorem Ctx.ext (C : Ctx K W S G δ σ H) (s : Stp [] H H') : Ctx K W S G δ σ H' := by
  refine C.stp s.nil fun dl cl e => ?_
  rcases C.deal with e' | ⟨dl', cl', e', h⟩
  · rw [e] at e'; cases e'
  · rw [e] at e'
    cases e'
    obtain ⟨h0, cs, b, h1, h2, h3⟩ := h
    exact ⟨h0, cs, b, s _ _ h1 (fun z => by cases z), s _ _ h2 (fun z => by cases z), h3⟩
theorem Ctx.set (C : Ctx K W S G δ σ H) (i : Nat) {o : Option V} {s : Sl} (q : SlOk K S H o s) : Ctx K W S G (δ.set i s) (σ.set i o) H := ⟨C.env.set i q, C.deal, C.ms, C.objs, C.trk, C.fr⟩
theorem Ctx.mv {d : PyData} {v : V} (C : Ctx K W S G δ σ H) (s : Stp W.M H H') (r : Rp K S H d v) : Rp K S H' d v := r.mv (s.mv fun x hx => (C.ms x hx).1)
/-- a new object that will change -/
theorem Ctx.vol (C : Ctx K W S G δ σ H) {p : Addr} {o : HO} {x : MO} (hp : H p = none) (hx : Obj1 K (p :: S) (upd H p o) p x) : Ctx K W (p :: S) ((p, x) :: G) δ σ (upd H p o) := by
  have s : Stp [] H (upd H p o) := Stp.new hp
  have C1 := C.ext s
  have mf : Mv S (p :: S) H (upd H p o) := fun b u e n => ⟨s b u e (fun z => by cases z), fun z => by
    rcases List.mem_cons.mp z with z | z
    · rw [z, hp] at e; cases e
    · exact n z⟩
  refine ⟨C.env.mv mf, C1.deal, fun a ha => ⟨List.mem_cons_of_mem _ (C.ms a ha).1, (C.ms a ha).2⟩, fun q hq => ?_, fun a ha z => ?_, C1.fr⟩
  · rcases List.mem_cons.mp hq with e | hq
    · subst e
      refine ⟨hx, List.mem_cons_self, fun z => C.trk p (C.ms p z).1 hp, ?_⟩
      by_cases hm : p ∈ W.M0
      · exact .inl hm
      · refine .inr ?_
        cases q : W.H0 p with
        | none => rfl
        | some u =>
          have := C.fr p u q hm
          rw [hp] at this; cases this
    · obtain ⟨h1, h2, h3, h4⟩ := C.objs q hq
      exact ⟨h1.mv mf fun o e => s _ _ e (fun z => by cases z), List.mem_cons_of_mem _ h2, h3, h4⟩
  · rcases List.mem_cons.mp ha with e | ha
    · subst e
      rw [upd_same] at z; cases z
    · exact C1.trk a ha z
/-- a changing object is written -/
theorem Ctx.wr {G' : List (Addr × MO)} {a : Addr} {o : HO} {x y : MO} (C : Ctx K W S G δ σ H) (hG : (a, x) ∈ G) (hsub : ∀ q ∈ G', q = (a, y) ∨ (q ∈ G ∧ q.1 ≠ a)) (hy : Obj1 K S (upd H a o) a y) : Ctx K W S G' δ σ (upd H a o) := by
  obtain ⟨h1, h2, h3, h4⟩ := C.objs _ hG
  have m : Mv S S H (upd H a o) := fun b u e n => ⟨by rw [upd_ne (fun z => n (by rw [z]; exact h2))]; exact e, n⟩
  refine ⟨C.env.mv m, ?_, C.ms, fun q hq => ?_, fun b hb z => ?_, fun b u e n => ?_⟩
  · rcases C.deal with e | ⟨dl, cl, e, hd⟩
    · exact .inl e
    · refine .inr ⟨dl, cl, e, ?_⟩
      rw [e] at h3
      obtain ⟨h0, cs, b, g1, g2, g3⟩ := hd
      simp at h3
      refine ⟨h0, cs, b, ?_, ?_, g3⟩
      · rw [upd_ne (fun z => h3.1 z.symm)]; exact g1
      · rw [upd_ne (fun z => h3.2 z.symm)]; exact g2
  · rcases hsub q hq with e | ⟨hq, hn⟩
    · subst e
      exact ⟨hy, h2, h3, h4⟩
    · obtain ⟨k1, k2, k3, k4⟩ := C.objs q hq
      exact ⟨k1.mv m fun o e => by rw [upd_ne hn]; exact e, k2, k3, k4⟩
  · by_cases hb2 : b = a
    · rw [hb2, upd_same] at z; cases z
    · rw [upd_ne hb2] at z
      exact C.trk b hb z
  · have e2 := C.fr b u e n
    rw [upd_ne (fun z => ?_)]
    · exact e2
    · subst z
      rcases h4 with h4 | h4
      · exact n h4
      · have h4 : W.H0 b = none := h4
        rw [h4] at e; cases e
end
end Dl
/-! text D2 -/
set_option Elab.async false
set_option linter.all false
set_option maxRecDepth 100000
set_option maxHeartbeats 1000000
namespace Dl
open PySem PySem.Spec PyProof.Rows L2
/-! ### the plainest readings -/
def EE (X : Cx) (e : Expr) : TE := fun σ H Q => ∀ (pins : List (Addr × Obj)) (s : Shared), Inv X pins σ H s → wpAny (model X.prog X.w) X.A (eval e X.env) (EP X pins σ Q) X.xe s
def ET (X : Cx) (e : Expr) : TT := fun σ H Q => ∀ (pins : List (Addr × Obj)) (s : Shared), Inv X pins σ H s → wpAny (model X.prog X.w) X.A (isTrue e X.env (eval e X.env)) (TP X pins σ Q) X.xe s
def EA (X : Cx) (es : List Expr) : TA := fun σ H Q => ∀ (pos : Pos) (pins : List (Addr × Obj)) (s : Shared), Inv X pins σ H s → wpAny (model X.prog X.w) X.A (spliced (backTo pos (starEach es X.env))) (AP X pins σ Q) X.xe s
def S1 (X : Cx) (st : Stmt) : TS := fun D σ H => ∀ (pins : List (Addr × Obj)) (s : Shared), Inv X pins σ H s → wpAny (model X.prog X.w) X.A (exec st X.env) (SP X pins D) X.xe s
def SS (X : Cx) (st : List Stmt) : TS := fun D σ H => ∀ (pins : List (Addr × Obj)) (s : Shared), Inv X pins σ H s → wpAny (model X.prog X.w) X.A (execs st X.env) (SP X pins D) X.xe s
def EG (X : Cx) (tg : Expr) : TG := fun v σ H Q => ∀ (pins : List (Addr × Obj)) (s : Shared) (u : Value), Inv X pins σ H s → RelV v u → wpAny (model X.prog X.w) X.A (assign tg X.env u) (fun _ s' => ∃ σ' H', Inv X pins σ' H' s' ∧ Q σ' H') X.xe s
section
variable {X : Cx}
theorem pee {e : Expr} : PE X e (EE X e) := ⟨fun pins s σ H Q I h => h pins s I⟩
theorem pet {e : Expr} : PT X e (ET X e) := ⟨fun pins s σ H Q I h => h pins s I⟩
theorem pea {es : List Expr} : PA X es (EA X es) := ⟨fun pos pins s σ H Q I h => h pos pins s I⟩
theorem pse {st : Stmt} : PS X st (S1 X st) := ⟨fun pins s σ H D I h => h pins s I⟩
theorem psse {st : List Stmt} : PSs X st (SS X st) := ⟨fun pins s σ H D I h => h pins s I⟩
theorem pge {tg : Expr} : PG X tg (EG X tg) := ⟨fun pins s σ H v u Q I r h => h pins s u I r⟩
theorem EE.of {e : Expr} {t : TE} {σ : L2.St} {H : Hp} {Q : VK} (h : PE X e t) (q : t σ H Q) : EE X e σ H Q := fun pins s I => h.run pins s σ H Q I q
theorem ET.of {e : Expr} {t : TT} {σ : L2.St} {H : Hp} {Q : Bool → Hp → Prop} (h : PT X e t) (q : t σ H Q) : ET X e σ H Q := fun pins s I => h.run pins s σ H Q I q
theorem EA.of {es : List Expr} {t : TA} {σ : L2.St} {H : Hp} {Q : List V → Hp → Prop} (h : PA X es t) (q : t σ H Q) : EA X es σ H Q := fun pos pins s I => h.run pos pins s σ H Q I q
theorem S1.of {st : Stmt} {t : TS} {D : Ends} {σ : L2.St} {H : Hp} (h : PS X st t) (q : t D σ H) : S1 X st D σ H := fun pins s I => h.run pins s σ H D I q
theorem SS.of {st : List Stmt} {t : TS} {D : Ends} {σ : L2.St} {H : Hp} (h : PSs X st t) (q : t D σ H) : SS X st D σ H := fun pins s I => h.run pins s σ H D I q
theorem EG.of {tg : Expr} {t : TG} {v : V} {σ : L2.St} {H : Hp} {Q : L2.St → Hp → Prop} (h : PG X tg t) (q : t v σ H Q) : EG X tg v σ H Q := fun pins s u I r => h.run pins s σ H v u Q I r q
theorem ss_cons {st : Stmt} {r : List Stmt} {D : Ends} {σ : L2.St} {H : Hp} (h : S1 X st { D with nx := SS X r D } σ H) : SS X (st :: r) D σ H := SS.of (pss_cons pse psse) h
theorem ss_nil {D : Ends} {σ : L2.St} {H : Hp} (h : D.nx σ H) : SS X [] D σ H := SS.of pss_nil h
end
/-! ### what an expression gives, as data -/
section
variable (X : Cx) (W : Wd) (S : List Addr) (G : List (Addr × MO)) (δ : List Sl)
def DE (e : Expr) (P : PyData → Prop) : Prop := ∀ (σ : L2.St) (H : Hp), Ctx X.K W S G δ σ H → ∀ Q : VK, (∀ v H' d, Ctx X.K W S G δ σ H' → Stp W.M H H' → P d → Rp X.K S H' d v → Q v H') → EE X e σ H Q
def DAs (es : List Expr) (P : List PyData → Prop) : Prop := ∀ (σ : L2.St) (H : Hp), Ctx X.K W S G δ σ H → ∀ Q : List V → Hp → Prop, (∀ vs H' ds, Ctx X.K W S G δ σ H' → Stp W.M H H' → P ds → Rps X.K S H' ds vs → Q vs H') → EA X es σ H Q
def BE (e : Expr) (P : Bool → Prop) : Prop := ∀ (σ : L2.St) (H : Hp), Ctx X.K W S G δ σ H → ∀ Q : Bool → Hp → Prop, (∀ b H', Ctx X.K W S G δ σ H' → Stp W.M H H' → P b → Q b H') → ET X e σ H Q
end
/-- an operation of two values, by data -/
def RD (X : Cx) (S : List Addr) (r : R2) (da db : PyData) (P : PyData → Prop) : Prop := ∀ (H : Hp) (x y : V), Trk S H → Rp X.K S H da x → Rp X.K S H db y → ∀ Q : VK, (∀ v H' d, Stp [] H H' → P d → Rp X.K S H' d v → Q v H') → r x y H Q
def RD1 (X : Cx) (S : List Addr) (r : V → Hp → VK → Prop) (da : PyData) (P : PyData → Prop) : Prop := ∀ (H : Hp) (x : V), Trk S H → Rp X.K S H da x → ∀ Q : VK, (∀ v H' d, Stp [] H H' → P d → Rp X.K S H' d v → Q v H') → r x H Q
def RDs (X : Cx) (S : List Addr) (r : List V → Hp → VK → Prop) (ds : List PyData) (P : PyData → Prop) : Prop := ∀ (H : Hp) (vs : List V), Trk S H → Rps X.K S H ds vs → ∀ Q : VK, (∀ v H' d, Stp [] H H' → P d → Rp X.K S H' d v → Q v H') → r vs H Q
section
variable {X : Cx} {W : Wd} {S : List Addr} {G : List (Addr × MO)} {δ : List Sl} {a b c e : Expr} {es : List Expr} {P Pa Pb : PyData → Prop} {pos : Pos}
theorem DE.imp (h : DE X W S G δ e Pa) (i : ∀ d, Pa d → P d) : DE X W S G δ e P := fun σ H C Q q => h σ H C Q fun v H' d C' st p r => q v H' d C' st (i d p) r
theorem BE.imp {P P' : Bool → Prop} (h : BE X W S G δ e P') (i : ∀ d, P' d → P d) : BE X W S G δ e P := fun σ H C Q q => h σ H C Q fun b H' C' st p => q b H' C' st (i b p)
/-- an expression may be looked at with what is known of the slots -/
theorem DE.know (h : ∀ σ H, Ctx X.K W S G δ σ H → DE X W S G δ e P) : DE X W S G δ e P := fun σ H C => h σ H C σ H C
theorem BE.know {P : Bool → Prop} (h : ∀ σ H, Ctx X.K W S G δ σ H → BE X W S G δ e P) : BE X W S G δ e P := fun σ H C => h σ H C σ H C
theorem de_var (i : Nat) {d : PyData} {x : Str} (hd : δ[i]? = some (.d d)) (hN : X.N[i]? = some x := by rfl) (hv : Vis X.env.scope x := by first | exact Or.inl rfl | exact Or.inr (Or.inl rfl) | exact Or.inr (Or.inr rfl)) (h1 : (x == ("__debug__" : Str)) = false := by decide)
    (h2 : (x == ("__classdict__" : Str)) = false := by decide) : DE X W S G δ (.Name x pos) (fun y => y = d) := fun σ H C Q q => by
  obtain ⟨o, e1, v, e2, r⟩ := C.env.get hd
  exact EE.of (pe_var hN hv h1 h2) ⟨v, by rw [e1, e2], q v H d C .refl rfl r⟩
theorem de_int {i : Int} {j : Nat} : DE X W S G δ (.Constant (.int i) j pos) (fun y => y = .int i) := fun σ H C Q q => EE.of pe_int (q _ H _ C .refl rfl rfl)
theorem de_str {x : Str} {j : Nat} : DE X W S G δ (.Constant (.str x) j pos) (fun y => y = .str x) := fun σ H C Q q => EE.of pe_str (q _ H _ C .refl rfl rfl)
theorem de_bl {x : Bool} {j : Nat} : DE X W S G δ (.Constant (.bool x) j pos) (fun y => y = .bool x) := fun σ H C Q q => EE.of pe_bl (q _ H _ C .refl rfl rfl)
theorem de_non {j : Nat} : DE X W S G δ (.Constant .none j pos) (fun y => y = .none) := fun σ H C Q q => EE.of pe_non (q _ H _ C .refl rfl rfl)
theorem de_two {r : R2} {t : TE} (hp : PE X e (tOp r (EE X a) (EE X b))) (ha : DE X W S G δ a Pa) (hb : DE X W S G δ b Pb) (hr : ∀ da db, Pa da → Pb db → RD X S r da db P) : DE X W S G δ e P := fun σ H C Q q =>
  EE.of hp (ha σ H C _ fun x H1 da C1 s1 pa ra => hb σ H1 C1 _ fun y H2 db C2 s2 pb rb => hr da db pa pb H2 x y C2.trk (C1.mv s2 ra) rb Q fun v H3 d s3 p r3 => q v H3 d (C2.ext s3) ((s1.trans s2).trans s3.nil) p r3)
theorem de_op {op : Operator} {r : R2} (ho : OpR X (binaryOp op) r) (ha : DE X W S G δ a Pa) (hb : DE X W S G δ b Pb) (hr : ∀ da db, Pa da → Pb db → RD X S r da db P) : DE X W S G δ (.BinOp a op b pos) P := de_two (t := EE X a) (pe_op ho pee pee) ha hb hr
theorem de_cmp {op : CmpOp} {r : R2} (ho : OpR X (compareOp op) r) (hm : behindInMarks op b = false) (ha : DE X W S G δ a Pa) (hb : DE X W S G δ b Pb) (hr : ∀ da db, Pa da → Pb db → RD X S r da db P) : DE X W S G δ (.Compare a [op] [b] pos) P := de_two (t := EE X a) (pe_cmpR ho pee pee hm) ha hb hr
theorem be_cmp {op : CmpOp} {r : R2} {P : Bool → Prop} (ho : OpR X (compareOp op) r) (hm : behindInMarks op b = false) (ha : DE X W S G δ a Pa) (hb : DE X W S G δ b Pb) (hr : ∀ da db, Pa da → Pb db → RD X S r da db (fun d => ∃ k, d = .bool k ∧ P k)) : BE X W S G δ (.Compare a [op] [b] pos) P := fun σ H C Q q =>
  ET.of (pt_cmpR ho pee pee hm) (ha σ H C _ fun x H1 da C1 s1 pa ra => hb σ H1 C1 _ fun y H2 db C2 s2 pb rb => hr da db pa pb H2 x y C2.trk (C1.mv s2 ra) rb _ fun v H3 d s3 ⟨k, e1, p⟩ r3 => by
    subst e1
    exact ⟨k, r3, q k H3 (C2.ext s3) ((s1.trans s2).trans s3.nil) p⟩)
theorem be_val {P : Bool → Prop} (h : DE X W S G δ e (fun d => ∃ k, d = .bool k ∧ P k)) (he : ∀ whole, isTrue e X.env whole = (do let v ← whole; standAt e.pos; holding [v] (truthy v)) := by intro _; rfl) : BE X W S G δ e P := fun σ H C Q q =>
  ET.of (pt_val pee he) (h σ H C _ fun v H1 d C1 s1 ⟨k, e1, p⟩ r => by
    subst e1
    exact ⟨k, r, q k H1 C1 s1 p⟩)
theorem de_un {op : UnaryOp} {r : V → Hp → VK → Prop} (ho : UnR X (unaryOp op) r) (ha : DE X W S G δ a Pa) (hr : ∀ da, Pa da → RD1 X S r da P) : DE X W S G δ (.UnaryOp op a pos) P := fun σ H C Q q =>
  EE.of (pe_un ho pee) (ha σ H C _ fun x H1 da C1 s1 pa ra => hr da pa H1 x C1.trk ra Q fun v H3 d s3 p r3 => q v H3 d (C1.ext s3) (s1.trans s3.nil) p r3)
/-! tests -/
theorem be_not {P : Bool → Prop} (h : BE X W S G δ a (fun b => P (!b))) : BE X W S G δ (.UnaryOp .Not a pos) P := fun σ H C Q q => ET.of (pt_not pet) (h σ H C _ fun b H1 C1 s1 p => q _ H1 C1 s1 p)
def BW (X : Cx) (W : Wd) (S : List Addr) (G : List (Addr × MO)) (δ : List Sl) (e : Expr) (P : Bool → Prop) : Prop := ∃ t : TT, PW X e t ∧ ∀ (σ : L2.St) (H : Hp), Ctx X.K W S G δ σ H → ∀ Q : Bool → Hp → Prop, (∀ b H', Ctx X.K W S G δ σ H' → Stp W.M H H' → P b → Q b H') → t σ H Q
theorem be_bw {P : Bool → Prop} (h : BW X W S G δ e P) : BE X W S G δ e P := fun σ H C Q q => by
  obtain ⟨t, hp, ht⟩ := h
  exact ET.of hp.pt (ht σ H C Q q)
theorem bw_and1 {P : Bool → Prop} (h : BE X W S G δ a P) : BW X W S G δ (.BoolOp .And [a] pos) P := ⟨_, pw_and1 pet, h⟩
theorem bw_or1 {P : Bool → Prop} (h : BE X W S G δ a P) : BW X W S G δ (.BoolOp .Or [a] pos) P := ⟨_, pw_or1 pet, h⟩
theorem bw_and {P1 P2 P : Bool → Prop} (h : BE X W S G δ a P1) (g : P1 true → BW X W S G δ (.BoolOp .And (b :: es) pos) P2) (k1 : P1 false → P false) (k2 : ∀ c, P1 true → P2 c → P c) : BW X W S G δ (.BoolOp .And (a :: b :: es) pos) P := by
  by_cases ht : P1 true
  · obtain ⟨t, hp, ht2⟩ := g ht
    refine ⟨_, pw_and pet hp, fun σ H C Q q => h σ H C _ fun c H1 C1 s1 p => ?_⟩
    cases c with
    | true => exact ht2 σ H1 C1 _ fun c2 H2 C2 s2 p2 => q c2 H2 C2 (s1.trans s2) (k2 c2 p p2)
    | false => exact q false H1 C1 s1 (k1 p)
  · refine ⟨fun σ H Q => ∀ (wh : Sem Value) (pins : List (Addr × Obj)) (s : Shared), Inv X pins σ H s → wpAny (model X.prog X.w) X.A (isTrue (.BoolOp .And (a :: b :: es) pos) X.env wh) (TP X pins σ Q) X.xe s, ⟨fun wh pins s σ H Q I h => h wh pins s I⟩, fun σ H C Q q => ?_⟩
    intro wh pins s I
    refine isTrue_and (thn (h σ H C (fun c H1 => c = false ∧ Q false H1) (fun c H1 C1 s1 p => ?_) pins s I) fun c s1 ⟨H1, I1, e1, q1⟩ => ?_)
    · cases c with
      | true => exact absurd p ht
      | false => exact ⟨rfl, q false H1 C1 s1 (k1 p)⟩
    · subst e1
      exact ⟨H1, I1, q1⟩
theorem bw_or {P1 P2 P : Bool → Prop} (h : BE X W S G δ a P1) (g : P1 false → BW X W S G δ (.BoolOp .Or (b :: es) pos) P2) (k1 : P1 true → P true) (k2 : ∀ c, P1 false → P2 c → P c) : BW X W S G δ (.BoolOp .Or (a :: b :: es) pos) P := by
  by_cases ht : P1 false
  · obtain ⟨t, hp, ht2⟩ := g ht
    refine ⟨_, pw_or pet hp, fun σ H C Q q => h σ H C _ fun c H1 C1 s1 p => ?_⟩
    cases c with
    | false => exact ht2 σ H1 C1 _ fun c2 H2 C2 s2 p2 => q c2 H2 C2 (s1.trans s2) (k2 c2 p p2)
    | true => exact q true H1 C1 s1 (k1 p)
  · refine ⟨fun σ H Q => ∀ (wh : Sem Value) (pins : List (Addr × Obj)) (s : Shared), Inv X pins σ H s → wpAny (model X.prog X.w) X.A (isTrue (.BoolOp .Or (a :: b :: es) pos) X.env wh) (TP X pins σ Q) X.xe s, ⟨fun wh pins s σ H Q I h => h wh pins s I⟩, fun σ H C Q q => ?_⟩
    intro wh pins s I
    refine isTrue_or (thn (h σ H C (fun c H1 => c = true ∧ Q true H1) (fun c H1 C1 s1 p => ?_) pins s I) fun c s1 ⟨H1, I1, e1, q1⟩ => ?_)
    · cases c with
      | false => exact absurd p ht
      | true => exact ⟨rfl, q true H1 C1 s1 (k1 p)⟩
    · subst e1
      exact ⟨H1, I1, q1⟩
/-- and, or as values of tests -/
theorem de_and2 {P : PyData → Prop} {P1 P2 : Bool → Prop} (ha : DE X W S G δ a (fun d => ∃ k, d = .bool k ∧ P1 k)) (hb : P1 true → DE X W S G δ b P) (h0 : P1 false → P (.bool false)) : DE X W S G δ (.BoolOp .And [a, b] pos) P := fun σ H C Q q =>
  EE.of (pe_and pee (pe_one pee)) (ha σ H C _ fun x H1 da C1 s1 ⟨k, e1, p⟩ ra => by
    subst e1
    refine ⟨k, ra, ?_⟩
    cases k with
    | true => exact iteT (hb p σ H1 C1 Q fun v H2 d C2 s2 p2 r2 => q v H2 d C2 (s1.trans s2) p2 r2)
    | false => exact iteF (q _ H1 _ C1 s1 (h0 p) rfl))
theorem de_if {Pt : Bool → Prop} (hc : BE X W S G δ c Pt) (ha : Pt true → DE X W S G δ a P) (hb : Pt false → DE X W S G δ b P) : DE X W S G δ (.IfExp c a b pos) P := fun σ H C Q q =>
  EE.of (pe_ifExp pet pee pee) (hc σ H C _ fun k H1 C1 s1 p => by
    cases k with
    | true => exact iteT (ha p σ H1 C1 Q fun v H2 d C2 s2 p2 r2 => q v H2 d C2 (s1.trans s2) p2 r2)
    | false => exact iteF (hb p σ H1 C1 Q fun v H2 d C2 s2 p2 r2 => q v H2 d C2 (s1.trans s2) p2 r2))
/-! arguments, displays -/
theorem da_nil : DAs X W S G δ [] (fun ds => ds = []) := fun σ H C Q q => EA.of pa_nil (q [] H [] C .refl rfl rfl)
theorem da_cons {Ps : List PyData → Prop} (h : DE X W S G δ e Pa) (hr : DAs X W S G δ es Ps) (hs : starEach (e :: es) X.env = (false, eval e X.env) :: starEach es X.env := by exact star_cons rfl) : DAs X W S G δ (e :: es) (fun ds => ∃ d r, ds = d :: r ∧ Pa d ∧ Ps r) := fun σ H C Q q =>
  EA.of (pa_cons pee pea hs) (h σ H C _ fun x H1 d C1 s1 p r => hr σ H1 C1 _ fun xs H2 ds C2 s2 ps rs => q _ H2 (d :: ds) C2 (s1.trans s2) ⟨d, ds, rfl, p, ps⟩ (.cons (C1.mv s2 r) rs))
theorem DAs.imp {Ps Ps' : List PyData → Prop} (h : DAs X W S G δ es Ps) (i : ∀ d, Ps d → Ps' d) : DAs X W S G δ es Ps' := fun σ H C Q q => h σ H C Q fun v H' d C' st p r => q v H' d C' st (i d p) r
theorem de_tup {Ps : List PyData → Prop} {x1} (h : DAs X W S G δ es Ps) (hl : es.length ≤ 1000 := by decide) (hlen : ∀ ds, Ps ds → ds.length ≤ 1000 := by intro _ h; obtain ⟨_, _, rfl, _⟩ := h; omega) : DE X W S G δ (.Tuple es x1 pos) (fun d => ∃ ds, d = .tuple ds ∧ Ps ds) := fun σ H C Q q =>
  EE.of (pe_tup pea) (h σ H C _ fun xs H1 ds C1 s1 p r => ⟨by rw [r.len]; exact Nat.le_of_lt (small1000 (hlen ds p)), fun l hl => by
    have st : Stp [] H1 (upd H1 l (.tup xs)) := Stp.new hl
    exact q _ _ (.tuple ds) (C1.ext st) (s1.trans st.nil) ⟨ds, rfl, p⟩ ⟨l, xs, rfl, .inl ⟨C1.trk.out hl, upd_same⟩, r.mv (st.mv fun x hx => by cases hx)⟩⟩)
theorem de_lst {Ps : List PyData → Prop} (h : DAs X W S G δ es Ps) (hlen : ∀ ds, Ps ds → ds.length ≤ 1000) : DE X W S G δ (.List es pos) (fun d => ∃ ds, d = .list ds ∧ Ps ds) := fun σ H C Q q =>
  EE.of (pe_lst pea) (h σ H C _ fun xs H1 ds C1 s1 p r => ⟨by rw [r.len]; exact Nat.le_of_lt (small1000 (hlen ds p)), fun l hl => by
    have st : Stp [] H1 (upd H1 l (.lst xs)) := Stp.new hl
    exact q _ _ (.list ds) (C1.ext st) (s1.trans st.nil) ⟨ds, rfl, p⟩ ⟨l, xs, rfl, ⟨C1.trk.out hl, upd_same⟩, r.mv (st.mv fun x hx => by cases hx)⟩⟩)
/-! subscripts -/
def atD (ds : List PyData) : Int → Option PyData
  | .ofNat n => ds[n]?
  | .negSucc n => atI ds (.negSucc n)
def ixD : PyData → PyData → Option PyData
  | .tuple ds, .int i => atD ds i
  | .list ds, .int i => atD ds i
  | _, _ => none
theorem atI_rps0 {K : PySem.W.Frag} {H : Hp} {ds : List PyData} {xs : List V} (r : Rps K S H ds xs) {i : Int} {d : PyData} (h : atI ds i = some d) : ∃ v, atI xs i = some v ∧ Rp K S H d v := by
  unfold atI at h ⊢
  rw [r.len]
  cases q : ixN ds.length i with
  | none => rw [q] at h; cases h
  | some j =>
    rw [q] at h
    exact r.get h
theorem atI_rps {K : PySem.W.Frag} {H : Hp} {ds : List PyData} {xs : List V} (r : Rps K S H ds xs) {i : Int} {d : PyData} (h : atD ds i = some d) : ∃ v, atI xs i = some v ∧ Rp K S H d v := by
  cases i with
  | ofNat n =>
    obtain ⟨v, e, rv⟩ := r.get (i := n) h
    exact ⟨v, atI_nat e, rv⟩
  | negSucc n => exact atI_rps0 r h
theorem rd_ix {da di d : PyData} (h : ixD da di = some d) : RD X S (rIx X.K) da di (fun y => y = d) := fun H x y t ra rb Q q => by
  cases da with
  | tuple ds =>
    cases di with
    | int i =>
      obtain ⟨a, xs, rfl, hx, r⟩ := ra
      have rb : y = .int i := rb
      obtain ⟨v, e1, r1⟩ := atI_rps r h
      exact .inr (.inl ⟨a, xs, i, v, rfl, rb, hx.sq, e1, q v H d .refl rfl r1⟩)
    | _ => cases h
  | list ds =>
    cases di with
    | int i =>
      obtain ⟨a, xs, rfl, hx, r⟩ := ra
      have rb : y = .int i := rb
      obtain ⟨v, e1, r1⟩ := atI_rps r h
      exact .inl ⟨a, xs, i, v, rfl, rb, .inl (.inl hx.2), e1, q v H d .refl rfl r1⟩
    | _ => cases h
  | _ => cases di <;> cases h
theorem de_ixP (ha : DE X W S G δ a Pa) (hb : DE X W S G δ b Pb) (h : ∀ da di, Pa da → Pb di → ∃ d, ixD da di = some d ∧ P d) (hs : PlainIx b := by intro _ _; rfl) : DE X W S G δ (.Subscript a b pos) P :=
  de_two (t := EE X a) (pe_ix ix_seq pee pee hs) ha hb fun da di pa pb => by
    obtain ⟨d, e1, p⟩ := h da di pa pb
    intro H x y t ra rb Q q
    exact rd_ix e1 H x y t ra rb Q fun v H' d' s e2 r => q v H' d' s (by rw [e2]; exact p) r
theorem de_ix {da di d : PyData} (ha : DE X W S G δ a (fun y => y = da)) (hb : DE X W S G δ b (fun y => y = di)) (h : ixD da di = some d) (hs : PlainIx b := by intro _ _; rfl) : DE X W S G δ (.Subscript a b pos) (fun y => y = d) :=
  de_ixP ha hb (fun da' di' e1 e2 => ⟨d, by rw [e1, e2]; exact h, rfl⟩) hs
/-! ints -/
theorem rd_I0 {g : Int → Int → V} {i j : Int} {d : PyData} (h : ∀ H, Rp X.K S H d (g i j)) : RD X S (rI0 g) (.int i) (.int j) (fun y => y = d) := fun H x y t ra rb Q q => ⟨i, j, ra, rb, q _ H d .refl rfl (h H)⟩
theorem rd_I {C : Int → Int → Prop} {g : Int → Int → V} {i j : Int} {d : PyData} (hc : C i j) (h : ∀ H, Rp X.K S H d (g i j)) : RD X S (rI C g) (.int i) (.int j) (fun y => y = d) := fun H x y t ra rb Q q => ⟨i, j, ra, rb, hc, q _ H d .refl rfl (h H)⟩
theorem de_add {i j : Int} (ha : DE X W S G δ a (fun y => y = .int i)) (hb : DE X W S G δ b (fun y => y = .int j)) : DE X W S G δ (.BinOp a .Add b pos) (fun y => y = .int (i + j)) := de_op op_add ha hb fun da db e1 e2 => by rw [e1, e2]; exact rd_I0 fun _ => rfl
theorem de_sub {i j : Int} (ha : DE X W S G δ a (fun y => y = .int i)) (hb : DE X W S G δ b (fun y => y = .int j)) : DE X W S G δ (.BinOp a .Sub b pos) (fun y => y = .int (i - j)) := de_op op_sub ha hb fun da db e1 e2 => by rw [e1, e2]; exact rd_I0 fun _ => rfl
theorem de_mul {i j : Int} (ha : DE X W S G δ a (fun y => y = .int i)) (hb : DE X W S G δ b (fun y => y = .int j)) (h : CMul i j) : DE X W S G δ (.BinOp a .Mult b pos) (fun y => y = .int (i * j)) := de_op op_mul ha hb fun da db e1 e2 => by rw [e1, e2]; exact rd_I h fun _ => rfl
theorem de_mod {i j : Int} (ha : DE X W S G δ a (fun y => y = .int i)) (hb : DE X W S G δ b (fun y => y = .int j)) (h : j ≠ 0) : DE X W S G δ (.BinOp a .Mod b pos) (fun y => y = .int (i.fmod j)) := de_op op_modN ha hb fun da db e1 e2 => by rw [e1, e2]; exact rd_I (C := fun _ j => j ≠ 0) h fun _ => rfl
theorem de_fdivW {i j : Int} (ha : DE X W S G δ a (fun y => y = .int i)) (hb : DE X W S G δ b (fun y => y = .int j)) (h : CDivW i j) : DE X W S G δ (.BinOp a .FloorDiv b pos) (fun y => y = .int (i / j)) := de_op op_fdivW ha hb fun da db e1 e2 => by rw [e1, e2]; exact rd_I h fun _ => rfl
theorem de_shl {i j : Int} (ha : DE X W S G δ a (fun y => y = .int i)) (hb : DE X W S G δ b (fun y => y = .int j)) (h : CPow i j) : DE X W S G δ (.BinOp a .LShift b pos) (fun y => y = .int (i * 2 ^ j.toNat)) := de_op op_shl ha hb fun da db e1 e2 => by rw [e1, e2]; exact rd_I h fun _ => rfl
theorem de_pow {i j : Int} (ha : DE X W S G δ a (fun y => y = .int i)) (hb : DE X W S G δ b (fun y => y = .int j)) (h : CPow i j) : DE X W S G δ (.BinOp a .Pow b pos) (fun y => y = .int (i ^ j.toNat)) := de_op op_pow ha hb fun da db e1 e2 => by rw [e1, e2]; exact rd_I h fun _ => rfl
theorem de_neg {i : Int} (ha : DE X W S G δ a (fun y => y = .int i)) : DE X W S G δ (.UnaryOp .USub a pos) (fun y => y = .int (-i)) := de_un un_neg ha fun da e1 => by
  rw [e1]
  exact fun H x t ra Q q => ⟨i, ra, q _ H _ .refl rfl rfl⟩
/-! comparisons of ints -/
section
variable {i j : Int} {op : CmpOp}
theorem be_lt (ha : DE X W S G δ a (fun y => y = .int i)) (hb : DE X W S G δ b (fun y => y = .int j)) : BE X W S G δ (.Compare a [.Lt] [b] pos) (fun k => k = decide (i < j)) := be_cmp op_lt (nomark _) ha hb fun da db e1 e2 => by rw [e1, e2]; exact fun H x y t ra rb Q q => ⟨i, j, ra, rb, q _ H (.bool (decide (i < j))) .refl ⟨_, rfl, rfl⟩ rfl⟩
theorem be_le (ha : DE X W S G δ a (fun y => y = .int i)) (hb : DE X W S G δ b (fun y => y = .int j)) : BE X W S G δ (.Compare a [.LtE] [b] pos) (fun k => k = decide (i ≤ j)) := be_cmp op_le (nomark _) ha hb fun da db e1 e2 => by rw [e1, e2]; exact fun H x y t ra rb Q q => ⟨i, j, ra, rb, q _ H (.bool (decide (i ≤ j))) .refl ⟨_, rfl, rfl⟩ rfl⟩
theorem be_gt (ha : DE X W S G δ a (fun y => y = .int i)) (hb : DE X W S G δ b (fun y => y = .int j)) : BE X W S G δ (.Compare a [.Gt] [b] pos) (fun k => k = decide (j < i)) := be_cmp op_gt (nomark _) ha hb fun da db e1 e2 => by rw [e1, e2]; exact fun H x y t ra rb Q q => ⟨i, j, ra, rb, q _ H (.bool (decide (j < i))) .refl ⟨_, rfl, rfl⟩ rfl⟩
theorem be_ge (ha : DE X W S G δ a (fun y => y = .int i)) (hb : DE X W S G δ b (fun y => y = .int j)) : BE X W S G δ (.Compare a [.GtE] [b] pos) (fun k => k = decide (j ≤ i)) := be_cmp op_ge (nomark _) ha hb fun da db e1 e2 => by rw [e1, e2]; exact fun H x y t ra rb Q q => ⟨i, j, ra, rb, q _ H (.bool (decide (j ≤ i))) .refl ⟨_, rfl, rfl⟩ rfl⟩
theorem de_lt (ha : DE X W S G δ a (fun y => y = .int i)) (hb : DE X W S G δ b (fun y => y = .int j)) : DE X W S G δ (.Compare a [.Lt] [b] pos) (fun k => k = .bool (decide (i < j))) := de_cmp op_lt (nomark _) ha hb fun da db e1 e2 => by rw [e1, e2]; exact rd_I0 fun _ => rfl
theorem de_gt (ha : DE X W S G δ a (fun y => y = .int i)) (hb : DE X W S G δ b (fun y => y = .int j)) : DE X W S G δ (.Compare a [.Gt] [b] pos) (fun k => k = .bool (decide (j < i))) := de_cmp op_gt (nomark _) ha hb fun da db e1 e2 => by rw [e1, e2]; exact rd_I0 fun _ => rfl
theorem de_ge (ha : DE X W S G δ a (fun y => y = .int i)) (hb : DE X W S G δ b (fun y => y = .int j)) : DE X W S G δ (.Compare a [.GtE] [b] pos) (fun k => k = .bool (decide (j ≤ i))) := de_cmp op_ge (nomark _) ha hb fun da db e1 e2 => by rw [e1, e2]; exact rd_I0 fun _ => rfl
theorem de_le (ha : DE X W S G δ a (fun y => y = .int i)) (hb : DE X W S G δ b (fun y => y = .int j)) : DE X W S G δ (.Compare a [.LtE] [b] pos) (fun k => k = .bool (decide (i ≤ j))) := de_cmp op_le (nomark _) ha hb fun da db e1 e2 => by rw [e1, e2]; exact rd_I0 fun _ => rfl
end
/-! == of flat data -/
def fV : PyData → V
  | .none => .non
  | .bool b => .bl b
  | .int i => .int i
  | .str x => .str x
  | _ => .ty ""
def flat : PyData → Bool
  | .none => true
  | .bool _ => true
  | .int _ => true
  | .str _ => true
  | _ => false
theorem fV_eq {K : PySem.W.Frag} {H : Hp} {d : PyData} {v : V} (f : flat d = true) (r : Rp K S H d v) : v = fV d := by
  cases d <;> first | exact r | cases f
theorem fV_flat {d : PyData} (f : flat d = true) : flatV (fV d) = true := by
  cases d <;> first | rfl | cases f
theorem fVs_eq {K : PySem.W.Frag} {H : Hp} : ∀ {ds : List PyData} {vs : List V}, ds.all flat = true → Rps K S H ds vs → vs = ds.map fV
  | [], vs, f, r => r
  | d :: ds, vs, f, r => by
    obtain ⟨v, vs', e, h1, h2⟩ := r
    rw [List.all_cons, Bool.and_eq_true] at f
    rw [e, fV_eq f.1 h1, fVs_eq f.2 h2]
    rfl
theorem fVs_flat : ∀ {ds : List PyData}, ds.all flat = true → (ds.map fV).all flatV = true
  | [], _ => rfl
  | d :: ds, f => by
    rw [List.all_cons, Bool.and_eq_true] at f
    rw [List.map_cons, List.all_cons, fV_flat f.1, fVs_flat f.2]
    rfl
/-- scalars that == tells apart -/
def sc (x y : PyData) : Bool := flat x && flat y && scal (fV x) (fV y)
theorem be_eq {x y : PyData} (ha : DE X W S G δ a (fun z => z = x)) (hb : DE X W S G δ b (fun z => z = y)) (h : sc x y = true := by rfl) : BE X W S G δ (.Compare a [.Eq] [b] pos) (fun k => k = decide (fV x = fV y)) := be_cmp op_eq (nomark _) ha hb fun da db e1 e2 => by
  rw [e1, e2]
  simp only [sc, Bool.and_eq_true] at h
  refine fun H u w t ra rb Q q => ⟨by rw [fV_eq h.1.1 ra, fV_eq h.1.2 rb]; exact h.2, ?_⟩
  rw [fV_eq h.1.1 ra, fV_eq h.1.2 rb]
  exact q _ H (.bool (decide (fV x = fV y))) .refl ⟨_, rfl, rfl⟩ rfl
theorem be_ne {x y : PyData} (ha : DE X W S G δ a (fun z => z = x)) (hb : DE X W S G δ b (fun z => z = y)) (h : sc x y = true := by rfl) : BE X W S G δ (.Compare a [.NotEq] [b] pos) (fun k => k = !decide (fV x = fV y)) := be_cmp op_ne (nomark _) ha hb fun da db e1 e2 => by
  rw [e1, e2]
  simp only [sc, Bool.and_eq_true] at h
  refine fun H u w t ra rb Q q => ⟨by rw [fV_eq h.1.1 ra, fV_eq h.1.2 rb]; exact h.2, ?_⟩
  rw [fV_eq h.1.1 ra, fV_eq h.1.2 rb]
  exact q _ H (.bool (!decide (fV x = fV y))) .refl ⟨_, rfl, rfl⟩ rfl
theorem de_eqS {x y : PyData} (ha : DE X W S G δ a (fun z => z = x)) (hb : DE X W S G δ b (fun z => z = y)) (h : sc x y = true := by rfl) : DE X W S G δ (.Compare a [.Eq] [b] pos) (fun k => k = .bool (decide (fV x = fV y))) := de_cmp op_eq (nomark _) ha hb fun da db e1 e2 => by
  rw [e1, e2]
  simp only [sc, Bool.and_eq_true] at h
  refine fun H u w t ra rb Q q => ⟨by rw [fV_eq h.1.1 ra, fV_eq h.1.2 rb]; exact h.2, ?_⟩
  rw [fV_eq h.1.1 ra, fV_eq h.1.2 rb]
  exact q _ H (.bool (decide (fV x = fV y))) .refl rfl rfl
/-- is None -/
def isNn : PyData → Bool
  | .none => true
  | _ => false
theorem be_is {x : PyData} {j : Nat} {p : Pos} (ha : DE X W S G δ a (fun z => z = x)) : BE X W S G δ (.Compare a [.Is] [.Constant .none j p] pos) (fun k => k = isNn x) := be_cmp op_isN (nomark _) ha de_non fun da db e1 e2 => by
  rw [e1, e2]
  refine fun H u w t ra rb Q q => ⟨rb, q _ H (.bool (isNn x)) .refl ⟨_, rfl, rfl⟩ ?_⟩
  show V.bl (decide (u = .non)) = V.bl (isNn x)
  congr 1
  cases x with
  | tuple ds => obtain ⟨a, xs, e, _⟩ := ra; rw [e]; simp [isNn]
  | list ds => obtain ⟨a, xs, e, _⟩ := ra; rw [e]; simp [isNn]
  | dict _ => obtain ⟨a, xs, e, _⟩ := ra; rw [e]; simp [isNn]
  | none => have ra : u = _ := ra; rw [ra]; simp [isNn]
  | bool _ => have ra : u = _ := ra; rw [ra]; simp [isNn]
  | int _ => have ra : u = _ := ra; rw [ra]; simp [isNn]
  | str _ => have ra : u = _ := ra; rw [ra]; simp [isNn]
theorem be_isnot {x : PyData} {j : Nat} {p : Pos} (ha : DE X W S G δ a (fun z => z = x)) : BE X W S G δ (.Compare a [.IsNot] [.Constant .none j p] pos) (fun k => k = !isNn x) := be_cmp op_notN (nomark _) ha de_non fun da db e1 e2 => by
  rw [e1, e2]
  refine fun H u w t ra rb Q q => ⟨rb, q _ H (.bool (!isNn x)) .refl ⟨_, rfl, rfl⟩ ?_⟩
  show V.bl (!decide (u = .non)) = V.bl (!isNn x)
  congr 2
  cases x with
  | tuple ds => obtain ⟨a, xs, e, _⟩ := ra; rw [e]; simp [isNn]
  | list ds => obtain ⟨a, xs, e, _⟩ := ra; rw [e]; simp [isNn]
  | dict _ => obtain ⟨a, xs, e, _⟩ := ra; rw [e]; simp [isNn]
  | none => have ra : u = _ := ra; rw [ra]; simp [isNn]
  | bool _ => have ra : u = _ := ra; rw [ra]; simp [isNn]
  | int _ => have ra : u = _ := ra; rw [ra]; simp [isNn]
  | str _ => have ra : u = _ := ra; rw [ra]; simp [isNn]
/-! in -/
def seqOf : PyData → Option (List PyData)
  | .tuple ds => some ds
  | .list ds => some ds
  | _ => none
theorem rd_in {neg : Bool} {x y : PyData} {ds : List PyData} (hy : seqOf y = some ds) (hx : flat x = true) (hs : ds.all flat = true) : RD X S (rIn X.K neg) x y (fun d => d = .bool (if neg then !inV (fV x) (ds.map fV) else inV (fV x) (ds.map fV))) := fun H u w t ra rb Q q => by
  cases y with
  | tuple es =>
    obtain ⟨p, xs, rfl, hp, r⟩ := rb
    cases hy
    refine ⟨p, xs, rfl, .inr hp.sq, by rw [fV_eq hx ra]; exact fV_flat hx, by rw [fVs_eq hs r]; exact fVs_flat hs, ?_⟩
    rw [fV_eq hx ra, fVs_eq hs r]
    exact q _ H _ .refl rfl rfl
  | list es =>
    obtain ⟨p, xs, rfl, hp, r⟩ := rb
    cases hy
    refine ⟨p, xs, rfl, .inl (.inl (.inl hp.2)), by rw [fV_eq hx ra]; exact fV_flat hx, by rw [fVs_eq hs r]; exact fVs_flat hs, ?_⟩
    rw [fV_eq hx ra, fVs_eq hs r]
    exact q _ H _ .refl rfl rfl
  | _ => cases hy
theorem be_in {x y : PyData} {ds : List PyData} (hy : seqOf y = some ds) (ha : DE X W S G δ a (fun z => z = x)) (hb : DE X W S G δ b (fun z => z = y)) (hx : flat x = true := by rfl) (hs : ds.all flat = true := by rfl) (hm : behindInMarks .In b = false := by rfl) : BE X W S G δ (.Compare a [.In] [b] pos) (fun k => k = inV (fV x) (ds.map fV)) :=
  be_cmp op_in_seq hm ha hb fun da db e1 e2 => by
    rw [e1, e2]
    exact fun H u w t ra rb Q q => rd_in (neg := false) hy hx hs H u w t ra rb Q fun v H' d s e r => q v H' d s ⟨_, e, rfl⟩ r
theorem be_notin {x y : PyData} {ds : List PyData} (hy : seqOf y = some ds) (ha : DE X W S G δ a (fun z => z = x)) (hb : DE X W S G δ b (fun z => z = y)) (hx : flat x = true := by rfl) (hs : ds.all flat = true := by rfl) (hm : behindInMarks .NotIn b = false := by rfl) : BE X W S G δ (.Compare a [.NotIn] [b] pos) (fun k => k = !inV (fV x) (ds.map fV)) :=
  be_cmp op_notIn_seq hm ha hb fun da db e1 e2 => by
    rw [e1, e2]
    exact fun H u w t ra rb Q q => rd_in (neg := true) hy hx hs H u w t ra rb Q fun v H' d s e r => q v H' d s ⟨_, e, rfl⟩ r
theorem de_in {x y : PyData} {ds : List PyData} (hy : seqOf y = some ds) (ha : DE X W S G δ a (fun z => z = x)) (hb : DE X W S G δ b (fun z => z = y)) (hx : flat x = true := by rfl) (hs : ds.all flat = true := by rfl) (hm : behindInMarks .In b = false := by rfl) : DE X W S G δ (.Compare a [.In] [b] pos) (fun k => k = .bool (inV (fV x) (ds.map fV))) :=
  de_cmp op_in_seq hm ha hb fun da db e1 e2 => by
    rw [e1, e2]
    exact fun H u w t ra rb Q q => rd_in (neg := false) hy hx hs H u w t ra rb Q fun v H' d s e r => q v H' d s e r
/-! calls of built-ins -/
theorem de_callB {x : Str} {id : String} {r : List V → Hp → VK → Prop} {Ps : List PyData → Prop} {p : Pos} (hc : CallR X (.builtin id) r) (hg : Gl X x) (hm : X.mg x = none) (hv : bootBuiltins x = some (.builtin id)) (ha : DAs X W S G δ (e :: es) Ps) (hr : ∀ ds, Ps ds → RDs X S r ds P)
    (hp : PE X (.Call (.Name x p) (e :: es) [] pos) (tCB r (EA X (e :: es)))) : DE X W S G δ (.Call (.Name x p) (e :: es) [] pos) P := fun σ H C Q q =>
  EE.of hp (ha σ H C _ fun vs H1 ds C1 s1 ps rs => hr ds ps H1 vs C1.trk rs Q fun v H3 d s3 p3 r3 => q v H3 d (C1.ext s3) (s1.trans s3.nil) p3 r3)
end
end Dl
/-! text D3 -/
set_option Elab.async false
set_option linter.all false
set_option maxRecDepth 100000
set_option maxHeartbeats 1000000
namespace Dl
open PySem PySem.Spec PyProof.Rows L2
/-! ### defs: what they promise, how they are called -/
structure DefOk (P : Program) (w : World) (K : PySem.W.Frag) (mg : Str → Option Value) (base : Heap) (k : Nat) (x : Str) (ps : List Str) (sp : Sp) : Prop where
  ex : ∃ (f : Addr) (fd : FuncData), mg x = some (.ref f) ∧ PySem.W.keepIn K (.ref f) = true ∧ Binds K fd ps [] ∧ FnOk P w K mg base CX0 k f fd ps sp
theorem DefOk.mono {P : Program} {w : World} {K : PySem.W.Frag} {mg : Str → Option Value} {base : Heap} {j k : Nat} {x : Str} {ps : List Str} {sp : Sp} (F : DefOk P w K mg base j x ps sp) (h : j ≤ k) : DefOk P w K mg base k x ps sp := by
  obtain ⟨f, fd, h1, h2, h3, h4⟩ := F.ex
  exact ⟨f, fd, h1, h2, h3, h4.mono h⟩
def spP (K : PySem.W.Frag) {ι : Type} (pre : ι → List PyData → Prop) (post : ι → PyData → Prop) : Sp := fun vs H Q _ => ∃ i S ds, Trk S H ∧ Rps K S H ds vs ∧ pre i ds ∧ ∀ v H' d, Stp [] H H' → post i d → Rp K S H' d v → Q v H'
def spM (K : PySem.W.Frag) {ι : Type} (pre : ι → List PyData → Prop) (post : ι → PyData → Prop) : Sp := fun vs H Q _ => ∃ i S dl cl ds vs', vs = .ref dl :: vs' ∧ Trk S H ∧ dl ∈ S ∧ cl ∈ S ∧ Deal H dl cl ∧ Rps K S H ds vs' ∧ pre i ds ∧ ∀ v H' d, Stp [dl, cl] H H' → Deal H' dl cl → post i d → Rp K S H' d v → Q v H'
theorem start_env {K : PySem.W.Frag} {S : List Addr} {H : Hp} : ∀ {ds : List PyData} {vs : List V} (n : Nat), Rps K S H ds vs → EnvOk K S H (vs.map some ++ List.replicate n none) (ds.map Sl.d ++ List.replicate n Sl.u)
  | [], vs, n, h => by
    have h : vs = [] := h
    subst h
    induction n with
    | zero => exact rfl
    | succ n ih => exact ⟨none, _, rfl, True.intro, ih⟩
  | d :: ds, vs, n, ⟨v, vs', e, h1, h2⟩ => by
    subst e
    exact ⟨some v, _, rfl, ⟨v, rfl, h1⟩, start_env n h2⟩
section
variable {P : Program} {w : World} {K : PySem.W.Frag} {mg : Str → Option Value} {base : Heap} {x : Str} {params : Arguments} {body : List Stmt} {scope : Scope} {f : Addr} {fd : FuncData} {N ps : List Str} {k : Nat} {ι : Type} {pre : ι → List PyData → Prop} {post : ι → PyData → Prop}
/-- how a def's parameters bind: h is «fun _ _ _ _ _ _ us hl => match us, hl with | [_, _], _ => rfl» -/
abbrev BindW (x : Str) (params : Arguments) (body : List Stmt) (scope : Scope) (ps : List Str) : Prop := ∀ (kV doc pm : Value) (an : Option Addr) (cdv ct : Value) (us : List Value), us.length = ps.length → bindArgs (PySem.W.fnOf x x params body scope .none kV doc pm an cdv ct) ⟨us, []⟩ = pure (ps.zip us)
theorem def_P (F : ∃ fd, FunD K x x params body scope [] [] f fd) (hm : mg x = some (.ref f)) (hb : BindW x params body scope ps) (S : FnScope N ps scope) (hl : ∀ i ds, pre i ds → ds.length = ps.length)
    (h : ∀ (X : Cx), (∃ (cdv : Value) (A : Around) (outer : List Env) (s : Shared) (H : Hp) (E : XK), Room k (A.deeper (envOfC x scope s.heap.objs.size f cdv)) ∧ X = (cxOf CX0 P w K mg base N x scope f cdv A outer s H E).nox) →
      ∀ (i : ι) (S0 : List Addr) (H : Hp) (ds : List PyData) (σ : L2.St) (Q : VK), Ctx K ⟨[], H, []⟩ S0 [] (ds.map Sl.d ++ List.replicate (N.length - ps.length) Sl.u) σ H → pre i ds → (∀ v H' d, Stp [] H H' → post i d → Rp K S0 H' d v → Q v H') →
      SS X body { nx := fun _ H' => Q .non H', rt := Q } σ H) : DefOk P w K mg base (k + 1) x ps (spP K pre post) := by
  obtain ⟨fd, F⟩ := F
  refine ⟨f, fd, hm, F.kp, F.bindsN hb, F.ok S (fun vs H Q E q => ?_) fun cdv A outer s H vs Q E hr q => ?_⟩
  · obtain ⟨i, S0, ds, _, r, p, _⟩ := q
    rw [r.len]
    exact hl i ds p
  · obtain ⟨i, S0, ds, t, r, p, q⟩ := q
    refine ⟨_, PSs.nox psse, h _ ⟨cdv, A, outer, s, H, E, hr, rfl⟩ i S0 H ds _ Q ⟨?_, .inl rfl, fun a ha => (by cases ha), fun p hp => (by cases hp), t, .refl⟩ p q⟩
    have e : N.length - ps.length = N.length - vs.length := by rw [r.len, hl i ds p]
    rw [e]
    exact start_env _ r
theorem def_M (F : ∃ fd, FunD K x x params body scope [] [] f fd) (hm : mg x = some (.ref f)) (hb : BindW x params body scope ps) (S : FnScope N ps scope) (hl : ∀ i ds, pre i ds → ds.length + 1 = ps.length)
    (h : ∀ (X : Cx), (∃ (cdv : Value) (A : Around) (outer : List Env) (s : Shared) (H : Hp) (E : XK), Room k (A.deeper (envOfC x scope s.heap.objs.size f cdv)) ∧ X = (cxOf CX0 P w K mg base N x scope f cdv A outer s H E).nox) →
      ∀ (i : ι) (S0 : List Addr) (H : Hp) (dl cl : Addr) (ds : List PyData) (σ : L2.St) (Q : VK), Ctx K ⟨[dl, cl], H, [dl, cl]⟩ S0 [] (Sl.v (.ref dl) :: ds.map Sl.d ++ List.replicate (N.length - ps.length) Sl.u) σ H → pre i ds →
        (∀ v H' d, Stp [dl, cl] H H' → Deal H' dl cl → post i d → Rp K S0 H' d v → Q v H') →
      SS X body { nx := fun _ H' => Q .non H', rt := Q } σ H) : DefOk P w K mg base (k + 1) x ps (spM K pre post) := by
  obtain ⟨fd, F⟩ := F
  refine ⟨f, fd, hm, F.kp, F.bindsN hb, F.ok S (fun vs H Q E q => ?_) fun cdv A outer s H vs Q E hr q => ?_⟩
  · obtain ⟨i, S0, dl, cl, ds, vs', rfl, _, _, _, _, r, p, _⟩ := q
    rw [List.length_cons, r.len]
    exact hl i ds p
  · obtain ⟨i, S0, dl, cl, ds, vs', rfl, t, h1, h2, D, r, p, q⟩ := q
    refine ⟨_, PSs.nox psse, h _ ⟨cdv, A, outer, s, H, E, hr, rfl⟩ i S0 H dl cl ds _ Q ⟨?_, .inr ⟨dl, cl, rfl, D⟩, fun a ha => ⟨?_, ha⟩, fun p hp => (by cases hp), t, .refl⟩ p q⟩
    · have e : N.length - ps.length = N.length - (V.ref dl :: vs').length := by rw [List.length_cons, r.len, hl i ds p]
      rw [e]
      exact ⟨some (.ref dl), _, rfl, rfl, start_env _ r⟩
    · have ha : a ∈ [dl, cl] := ha
      simp at ha
      rcases ha with rfl | rfl
      · exact h1
      · exact h2
end
section
variable {X : Cx} {W : Wd} {S : List Addr} {G : List (Addr × MO)} {δ : List Sl} {a b c e : Expr} {es : List Expr} {P Pa Pb : PyData → Prop} {pos : Pos} {σ : L2.St} {H : Hp} {D : Ends} {r : List Stmt}
theorem de_call {k : Nat} {x : Str} {ps : List Str} {ι : Type} {pre : ι → List PyData → Prop} {post : ι → PyData → Prop} {Ps : List PyData → Prop} {p : Pos} (F : DefOk X.prog X.w X.K X.mg X.base k x ps (spP X.K pre post)) (hr : Room k X.A) (ha : DAs X W S G δ (e :: es) Ps) (hpre : ∀ ds, Ps ds → ∃ i, pre i ds ∧ ∀ d, post i d → P d)
    (hg : Gl X x := by rfl) (hdb : (x == ("__debug__" : Str)) = false := by decide) (he : starEach (e :: es) X.env = (false, eval e X.env) :: starEach es X.env := by exact star_cons rfl) (hpl : (backTo pos (starEach es X.env)).any (·.1) = false := by exact back_plain rfl) : DE X W S G δ (.Call (.Name x p) (e :: es) [] pos) P := fun σ H C Q q => by
  obtain ⟨f, fd, h1, h2, h3, h4⟩ := F.ex
  refine EE.of (pe_call (dvs := []) h4 hr hg h1 h2 h3 .nil pass0 pea hdb he hpl) (ha σ H C _ fun vs H1 ds C1 s1 pd rs => ?_)
  rw [List.append_nil]
  obtain ⟨i, p1, p2⟩ := hpre ds pd
  exact ⟨i, S, ds, C1.trk, rs, p1, fun v H' d st po rv => q v H' d (C1.ext st) (s1.trans st.nil) (p2 d po) rv⟩
theorem de_callM {k : Nat} {x xd : Str} {ps : List Str} {ι : Type} {pre : ι → List PyData → Prop} {post : ι → PyData → Prop} {Ps : List PyData → Prop} {p pd : Pos} {dl cl : Addr} (i : Nat) (hW : W.M = [dl, cl]) (hd : δ[i]? = some (.v (.ref dl))) (F : DefOk X.prog X.w X.K X.mg X.base k x ps (spM X.K pre post)) (hr : Room k X.A) (ha : DAs X W S G δ es Ps) (hpre : ∀ ds, Ps ds → ∃ i, pre i ds ∧ ∀ d, post i d → P d)
    (hN : X.N[i]? = some xd := by rfl) (hv : Vis X.env.scope xd := by first | exact Or.inl rfl | exact Or.inr (Or.inl rfl) | exact Or.inr (Or.inr rfl)) (g1 : (xd == ("__debug__" : Str)) = false := by decide) (g2 : (xd == ("__classdict__" : Str)) = false := by decide)
    (hg : Gl X x := by rfl) (hdb : (x == ("__debug__" : Str)) = false := by decide) (he : starEach (.Name xd pd :: es) X.env = (false, eval (.Name xd pd) X.env) :: starEach es X.env := by exact star_cons rfl) (hpl : (backTo pos (starEach es X.env)).any (·.1) = false := by exact back_plain rfl) : DE X W S G δ (.Call (.Name x p) (.Name xd pd :: es) [] pos) P := fun σ H C Q q => by
  obtain ⟨f, fd, h1, h2, h3, h4⟩ := F.ex
  obtain ⟨o, e1, e2⟩ := C.env.get hd
  have e2 : o = some (.ref dl) := e2
  refine EE.of (pe_call (dvs := []) h4 hr hg h1 h2 h3 .nil pass0 (pa_cons (pe_var (i := i) hN hv g1 g2) pea he) hdb he hpl) ⟨.ref dl, by rw [e1, e2], ha σ H C _ fun vs H1 ds C1 s1 pd rs => ?_⟩
  show spM X.K pre post ((V.ref dl :: vs) ++ []) H1 Q E0
  rw [List.append_nil]
  have hD : Deal H1 dl cl := by
    rcases C1.deal with z | ⟨dl', cl', z, hD⟩
    · rw [hW] at z; cases z
    · rw [hW] at z
      cases z
      exact hD
  obtain ⟨i, p1, p2⟩ := hpre ds pd
  refine ⟨i, S, dl, cl, ds, vs, rfl, C1.trk, (C1.ms dl (by rw [hW]; simp)).1, (C1.ms cl (by rw [hW]; simp)).1, hD, rs, p1, fun v H' d st D' po rv => ?_⟩
  have st' : Stp W.M H1 H' := by rw [hW]; exact st
  exact q v H' d (C1.stp st' fun dl' cl' z => by
    rw [hW] at z
    cases z
    exact D') (s1.trans st') (p2 d po) rv
/-! ### deep ==, the size of a list that changes -/
def rEqR (K : PySem.W.Frag) (neg : Bool) : R2 := fun x y H Q => ∃ d e, Dp K H x d ∧ Dp K H y e ∧ d.canLay0 = true ∧ e.canLay0 = true ∧ min d.depth e.depth ≤ 64 ∧ Q (.bl (if neg then !PyData.eqv d e else PyData.eqv d e)) H
theorem op_eqR (hu : X.A.units + 64 < cLine) : OpR X (compareOp .Eq) (rEqR X.K false) := by
  intro pins s σ H x y v u Q I rx ry h
  obtain ⟨d, e, hd, he, sd, se, hz, q⟩ := h
  obtain ⟨as, r1⟩ := Dp.reads I d x v hd rx
  obtain ⟨bs, r2⟩ := Dp.reads I e y u he ry
  exact SeqAt.compareEq_reads r1 r2 sd se (by omega) ⟨.bl _, H, I, rfl, q⟩
theorem op_neR (hu : X.A.units + 64 < cLine) : OpR X (compareOp .NotEq) (rEqR X.K true) := by
  intro pins s σ H x y v u Q I rx ry h
  obtain ⟨d, e, hd, he, sd, se, hz, q⟩ := h
  obtain ⟨as, r1⟩ := Dp.reads I d x v hd rx
  obtain ⟨bs, r2⟩ := Dp.reads I e y u he ry
  exact SeqAt.compareNe_reads r1 r2 sd se (by omega) ⟨.bl _, H, I, rfl, q⟩
theorem rd_eqR {neg : Bool} {x y : PyData} (cx : x.canLay0 = true) (cy : y.canLay0 = true) (hz : min x.depth y.depth ≤ 64) : RD X S (rEqR X.K neg) x y (fun d => d = .bool (if neg then !PyData.eqv x y else PyData.eqv x y)) := fun H u v t ra rb Q q =>
  ⟨x, y, ra.dp cx, rb.dp cy, cx, cy, hz, q _ H _ .refl rfl rfl⟩
theorem be_eqR {x y : PyData} (hu : X.A.units + 64 < cLine) (ha : DE X W S G δ a (fun z => z = x)) (hb : DE X W S G δ b (fun z => z = y)) (cx : x.canLay0 = true) (cy : y.canLay0 = true) (hz : min x.depth y.depth ≤ 64) : BE X W S G δ (.Compare a [.Eq] [b] pos) (fun k => k = PyData.eqv x y) := be_cmp (op_eqR hu) (nomark _) ha hb fun da db e1 e2 => by
  rw [e1, e2]
  exact fun H u w t ra rb Q q => rd_eqR (neg := false) cx cy hz H u w t ra rb Q fun v H' d s e r => q v H' d s ⟨_, e, rfl⟩ r
theorem be_neR {x y : PyData} (hu : X.A.units + 64 < cLine) (ha : DE X W S G δ a (fun z => z = x)) (hb : DE X W S G δ b (fun z => z = y)) (cx : x.canLay0 = true) (cy : y.canLay0 = true) (hz : min x.depth y.depth ≤ 64) : BE X W S G δ (.Compare a [.NotEq] [b] pos) (fun k => k = !PyData.eqv x y) := be_cmp (op_neR hu) (nomark _) ha hb fun da db e1 e2 => by
  rw [e1, e2]
  exact fun H u w t ra rb Q q => rd_eqR (neg := true) cx cy hz H u w t ra rb Q fun v H' d s e r => q v H' d s ⟨_, e, rfl⟩ r
/-! ### new lists -/
def NE (X : Cx) (W : Wd) (S : List Addr) (G : List (Addr × MO)) (δ : List Sl) (e : Expr) (P : List PyData → Prop) : Prop := ∀ (σ : L2.St) (H : Hp), Ctx X.K W S G δ σ H → ∀ Q : VK, (∀ p H' ds xs, Ctx X.K W S G δ σ H' → Stp W.M H H' → H p = none → H' p = some (.lst xs) → P ds → Rps X.K (p :: S) H' ds xs → Q (.ref p) H') → EE X e σ H Q
theorem NE.de {Ps : List PyData → Prop} (h : NE X W S G δ e Ps) : DE X W S G δ e (fun d => ∃ ds, d = .list ds ∧ Ps ds) := fun σ H C Q q => h σ H C _ fun p H' ds xs C' st hp hl pd r =>
  q _ H' (.list ds) C' st ⟨ds, rfl, pd⟩ ⟨p, xs, rfl, ⟨C.trk.out hp, hl⟩, r.mv (Mv.sub fun x hx => List.mem_cons_of_mem _ hx)⟩
theorem NE.imp {Ps Ps' : List PyData → Prop} (h : NE X W S G δ e Ps) (i : ∀ d, Ps d → Ps' d) : NE X W S G δ e Ps' := fun σ H C Q q => h σ H C Q fun p H' ds xs C' st hp hl pd r => q p H' ds xs C' st hp hl (i ds pd) r
theorem back_none {M : List Addr} {H H' : Hp} {p : Addr} (s : Stp M H H') (h : H' p = none) (hM : p ∈ M → H p = none) : H p = none := by
  by_cases hp : p ∈ M
  · exact hM hp
  · cases q : H p with
    | none => rfl
    | some o =>
      rw [s p o q hp] at h
      cases h
theorem Ctx.back {H' : Hp} {p : Addr} (C : Ctx X.K W S G δ σ H) (C' : Ctx X.K W S G δ σ H') (s : Stp W.M H H') (h : H' p = none) : H p = none := back_none s h fun hm => absurd h (C'.trk p (C'.ms p hm).1)
theorem mv_new {K : PySem.W.Frag} {ds : List PyData} {xs : List V} {p : Addr} {o : HO} (hp : H p = none) (r : Rps K S H ds xs) : Rps K (p :: S) (upd H p o) ds xs := r.mv fun b u e n => ⟨by rw [upd_ne (ne_of_none e hp)]; exact e, fun z => by
  rcases List.mem_cons.mp z with z | z
  · rw [z, hp] at e; cases e
  · exact n z⟩
theorem ne_lst {Ps : List PyData → Prop} (h : DAs X W S G δ es Ps) (hlen : ∀ ds, Ps ds → ds.length ≤ 1000) : NE X W S G δ (.List es pos) Ps := fun σ H C Q q =>
  EE.of (pe_lst pea) (h σ H C _ fun xs H1 ds C1 s1 p r => ⟨by rw [r.len]; exact Nat.le_of_lt (small1000 (hlen ds p)), fun l hl => by
    have st : Stp [] H1 (upd H1 l (.lst xs)) := Stp.new hl
    exact q l _ ds xs (C1.ext st) (s1.trans st.nil) (C.back C1 s1 hl) upd_same p (mv_new hl r)⟩)
theorem ne_nil : NE X W S G δ (.List [] pos) (fun ds => ds = []) := ne_lst da_nil fun ds e => by rw [e]; exact Nat.zero_le _
/-- list(..) of data -/
theorem ne_listOf {p : Pos} {y : PyData} {ds : List PyData} (hm : X.mg "list" = none) (ha : DE X W S G δ e (fun z => z = y)) (hy : seqOf y = some ds) (hg : Gl X "list" := by rfl) (hp : PE X (.Call (.Name "list" p) [e] [] pos) (tCB (fun xs H Q => ∃ p ys, xs = [.ref p] ∧ (SqL X.K H p ys ∨ SqT X.K H p ys) ∧ ∀ l, H l = none → Q (.ref l) (upd H l (.lst ys))) (tCons (EE X e) tNil))) :
    NE X W S G δ (.Call (.Name "list" p) [e] [] pos) (fun es => es = ds) := fun σ H C Q q => EE.of hp (ha σ H C _ fun v H1 d C1 s1 e1 rv => by
  subst e1
  cases d with
  | tuple es =>
    obtain ⟨a, xs, rfl, ht, r⟩ := rv
    cases hy
    refine ⟨a, xs, rfl, .inr ht.sq, fun l hl => ?_⟩
    have st : Stp [] H1 (upd H1 l (.lst xs)) := Stp.new hl
    exact q l _ ds xs (C1.ext st) (s1.trans st.nil) (C.back C1 s1 hl) upd_same rfl (mv_new hl r)
  | list es =>
    obtain ⟨a, xs, rfl, ht, r⟩ := rv
    cases hy
    refine ⟨a, xs, rfl, .inl (.inl (.inl ht.2)), fun l hl => ?_⟩
    have st : Stp [] H1 (upd H1 l (.lst xs)) := Stp.new hl
    exact q l _ ds xs (C1.ext st) (s1.trans st.nil) (C.back C1 s1 hl) upd_same rfl (mv_new hl r)
  | _ => cases hy)
/-- a new list that will change: taken up, given up -/
theorem Ctx.adopt {H' : Hp} {p : Addr} {x : MO} (C : Ctx X.K W S G δ σ H) (C' : Ctx X.K W S G δ σ H') (s : Stp W.M H H') (hp : H p = none) (hx : Obj1 X.K (p :: S) H' p x) : Ctx X.K W (p :: S) ((p, x) :: G) δ σ H' := by
  have m : Mv S (p :: S) H H' := fun b u e n => ⟨s b u e fun z => n (C.ms b z).1, fun z => by
    rcases List.mem_cons.mp z with z | z
    · rw [z, hp] at e; cases e
    · exact n z⟩
  have hpS : p ∉ S := C.trk.out hp
  refine ⟨C.env.mv m, C'.deal, fun a ha => ⟨List.mem_cons_of_mem _ (C.ms a ha).1, (C.ms a ha).2⟩, fun q hq => ?_, fun a ha z => ?_, C'.fr⟩
  · rcases List.mem_cons.mp hq with e | hq
    · subst e
      refine ⟨hx, List.mem_cons_self, fun z => hpS (C.ms p z).1, ?_⟩
      by_cases hm : p ∈ W.M0
      · exact .inl hm
      · refine .inr ?_
        cases q : W.H0 p with
        | none => rfl
        | some u =>
          have := C.fr p u q hm
          rw [hp] at this; cases this
    · obtain ⟨h1, h2, h3, h4⟩ := C.objs q hq
      exact ⟨h1.mv m fun o e => s _ _ e h3, List.mem_cons_of_mem _ h2, h3, h4⟩
  · rcases List.mem_cons.mp ha with e | ha
    · subst e
      cases x with
      | lst ds =>
        obtain ⟨xs, e, _⟩ := hx
        rw [e] at z; cases z
      | dct m =>
        obtain ⟨xs, e, _⟩ := hx
        rw [e] at z; cases z
      | dlk o kvs m =>
        obtain ⟨e, _⟩ := hx
        rw [e] at z; cases z
      | tp ss =>
        obtain ⟨xs, e, _⟩ := hx
        rw [e] at z; cases z
    · exact C'.trk a ha z
/-- fewer slots known -/
theorem Ctx.weak {δ' : List Sl} (C : Ctx X.K W S G δ σ H) (h : ∀ {H : Hp} {σ : L2.St}, EnvOk X.K S H σ δ → EnvOk X.K S H σ δ') : Ctx X.K W S G δ' σ H := ⟨h C.env, C.deal, C.ms, C.objs, C.trk, C.fr⟩
theorem Ctx.drop {p : Addr} {x : MO} (C : Ctx X.K W (p :: S) ((p, x) :: G) δ σ H) (hp : p ∉ S) (hG : ∀ q ∈ G, q.1 ∈ S) (hM : ∀ a ∈ W.M, a ∈ S) : Ctx X.K W S G δ σ H :=
  have m : Mv (p :: S) S H H := Mv.sub fun x hx => List.mem_cons_of_mem _ hx
  ⟨C.env.mv m, C.deal, fun a ha => ⟨hM a ha, (C.ms a ha).2⟩, fun q hq => by
    obtain ⟨h1, h2, h3, h4⟩ := C.objs q (List.mem_cons_of_mem _ hq)
    exact ⟨h1.mv m fun o e => e, hG q hq, h3, h4⟩, fun a ha => C.trk a (List.mem_cons_of_mem _ ha), C.fr⟩
theorem Ctx.freeze {p : Addr} {ds : List PyData} (C : Ctx X.K W (p :: S) ((p, .lst ds) :: G) δ σ H) (hp : p ∉ S) : Rp X.K S H (.list ds) (.ref p) := by
  obtain ⟨⟨xs, e, r⟩, _⟩ := C.objs _ List.mem_cons_self
  exact ⟨p, xs, rfl, ⟨hp, e⟩, r.mv (Mv.sub fun x hx => List.mem_cons_of_mem _ hx)⟩
/-! ### statements -/
theorem ss_set (i : Nat) {x : Str} {p : Pos} (C : Ctx X.K W S G δ σ H) (he : DE X W S G δ e P) (k : ∀ d σ' H', Ctx X.K W S G (δ.set i (.d d)) σ' H' → Stp W.M H H' → P d → SS X r D σ' H')
    (hN : X.N.Nodup) (hi : X.N[i]? = some x := by rfl) (hx : Loc X.env.scope x := by first | exact Or.inl rfl | exact Or.inr rfl) (hs : swapsWith e (some (.Name x p)) pos.line X.env = pure false := by rfl) (hf : X.fn x = true ∨ X.env.scope.names.lookup x = some .local := by first | exact .inl rfl | exact .inr rfl | assumption) :
    SS X (.Assign [.Name x p] e pos :: r) D σ H := ss_cons (S1.of (ps_set hN hi hx pee hs hf) (he σ H C _ fun v H' d C' st pd rv => k d _ H' (C'.set i ⟨v, rfl, rv⟩) st pd))
theorem ss_setN (i : Nat) {x : Str} {p : Pos} {Ps : List PyData → Prop} (C : Ctx X.K W S G δ σ H) (he : NE X W S G δ e Ps) (k : ∀ q ds σ' H', q ∉ S → Ctx X.K W (q :: S) ((q, .lst ds) :: G) (δ.set i (.v (.ref q))) σ' H' → Stp W.M H H' → Ps ds → SS X r D σ' H')
    (hN : X.N.Nodup) (hi : X.N[i]? = some x := by rfl) (hx : Loc X.env.scope x := by first | exact Or.inl rfl | exact Or.inr rfl) (hs : swapsWith e (some (.Name x p)) pos.line X.env = pure false := by rfl) (hf : X.fn x = true ∨ X.env.scope.names.lookup x = some .local := by first | exact .inl rfl | exact .inr rfl | assumption) :
    SS X (.Assign [.Name x p] e pos :: r) D σ H := ss_cons (S1.of (ps_set hN hi hx pee hs hf) (he σ H C _ fun q H' ds xs C' st hq hl pd rs => k q ds _ H' (C.trk.out hq) ((C.adopt (x := .lst ds) C' st hq ⟨xs, hl, rs⟩).set i rfl) st pd))
theorem ss_ret {v' : VK} (C : Ctx X.K W S G δ σ H) (he : DE X W S G δ e P) (k : ∀ v H' d, Ctx X.K W S G δ σ H' → Stp W.M H H' → P d → Rp X.K S H' d v → D.rt v H') : SS X (.Return (some e) pos :: r) D σ H :=
  ss_cons (S1.of (ps_ret pee) (he σ H C _ k))
theorem ss_if {Pt : Bool → Prop} {s t : List Stmt} (C : Ctx X.K W S G δ σ H) (hc : BE X W S G δ c Pt) (h1 : ∀ H', Ctx X.K W S G δ σ H' → Stp W.M H H' → Pt true → SS X s { D with nx := SS X r D } σ H') (h0 : ∀ H', Ctx X.K W S G δ σ H' → Stp W.M H H' → Pt false → SS X t { D with nx := SS X r D } σ H') : SS X (.If c s t pos :: r) D σ H :=
  ss_cons (S1.of (ps_if pet psse psse) (hc σ H C _ fun b H' C' st p => by
    cases b with
    | true => exact iteT (h1 H' C' st p)
    | false => exact iteF (h0 H' C' st p)))
theorem ss_drop (C : Ctx X.K W S G δ σ H) (he : DE X W S G δ e P) (k : ∀ H' d, Ctx X.K W S G δ σ H' → Stp W.M H H' → P d → SS X r D σ H') (hs : swapsWith e none pos.line X.env = pure false := by rfl) : SS X (.Expr e pos :: r) D σ H :=
  ss_cons (S1.of (ps_expr pee hs) (he σ H C _ fun v H' d C' st p _ => k H' d C' st p))
/-- xs.append(e) -/
theorem ss_app (i : Nat) {x : Str} {a : Addr} {ds : List PyData} {p1 p2 p3 : Pos} (C : Ctx X.K W S ((a, .lst ds) :: G) δ σ H) (hd : δ[i]? = some (.v (.ref a))) (hz : ds.length ≤ 1000) (hn : ∀ q ∈ G, q.1 ≠ a) (he : DE X W S ((a, .lst ds) :: G) δ e P)
    (k : ∀ d σ' H', Ctx X.K W S ((a, .lst (ds ++ [d])) :: G) δ σ' H' → Stp (a :: W.M) H H' → P d → SS X r D σ' H')
    (hp : PE X (.Call (.Attribute (.Name x p1) "append" p2) [e] [] p3) (tBM X.K "list" rAppend (tVar i) (tCons (EE X e) tNil))) (hs : swapsWith (.Call (.Attribute (.Name x p1) "append" p2) [e] [] p3) none pos.line X.env = pure false := by rfl) : SS X (.Expr (.Call (.Attribute (.Name x p1) "append" p2) [e] [] p3) pos :: r) D σ H := by
  refine ss_cons (S1.of (ps_expr hp hs) ?_)
  obtain ⟨o, e1, e2⟩ := C.env.get hd
  have e2 : o = some (.ref a) := e2
  obtain ⟨⟨xs0, hl0, _⟩, _⟩ := C.objs _ List.mem_cons_self
  refine ⟨.ref a, by rw [e1, e2], .inl ⟨rfl, _, .inl (.inl hl0)⟩, he σ H C _ fun v H1 d C1 s1 pd rv => ?_⟩
  obtain ⟨⟨xs, hl, rs⟩, haS, haM, _⟩ := C1.objs _ List.mem_cons_self
  refine ⟨a, xs, v, rfl, rfl, hl, by rw [rs.len]; exact small1000 hz, ?_⟩
  have m : Mv S S H1 (upd H1 a (.lst (xs ++ [v]))) := fun b u e n => ⟨by rw [upd_ne (fun z => n (by rw [z]; exact haS))]; exact e, n⟩
  refine k d σ _ (C1.wr (y := .lst (ds ++ [d])) List.mem_cons_self (fun q hq => ?_) ⟨xs ++ [v], upd_same, (rs.app (.one rv)).mv m⟩) ((s1.mono fun x hx => List.mem_cons_of_mem _ hx).trans (Stp.wr List.mem_cons_self)) pd
  rcases List.mem_cons.mp hq with e | hq
  · exact .inl e
  · exact .inr ⟨List.mem_cons_of_mem _ hq, hn q hq⟩
end
end Dl
/-! text D4 -/
set_option Elab.async false
set_option linter.all false
set_option maxRecDepth 100000
set_option maxHeartbeats 1000000
namespace Dl
open PySem PySem.Spec PyProof.Rows L2
/-! ### slots forgotten -/
def wipeD (δ : List Sl) : List Nat → List Sl
  | [] => δ
  | v :: vs => (wipeD δ vs).set v .u
section
variable {K : PySem.W.Frag} {S : List Addr} {H : Hp} {σ : L2.St} {δ : List Sl}
theorem EnvOk.wipe (h : EnvOk K S H σ δ) : ∀ vs : List Nat, EnvOk K S H (wipe σ vs) (wipeD δ vs)
  | [] => h
  | v :: vs => (EnvOk.wipe h vs).set v True.intro
theorem wipe_at (σ : L2.St) (j : Nat) : ∀ vs : List Nat, (wipe σ vs)[j]? = if j ∈ vs ∧ j < σ.length then some none else σ[j]?
  | [] => by simp [wipe]
  | v :: vs => by
    unfold L2.wipe
    by_cases hv : v = j
    · subst hv
      by_cases hl : v < σ.length
      · rw [List.getElem?_set_self (by rw [wipe_length]; exact hl), if_pos ⟨List.mem_cons_self, hl⟩]
      · rw [if_neg (fun z => hl z.2), List.getElem?_eq_none (by rw [List.length_set, wipe_length]; omega), List.getElem?_eq_none (by omega)]
    · rw [List.getElem?_set_ne hv, wipe_at σ j vs]
      have e : (j ∈ v :: vs ∧ j < σ.length) ↔ (j ∈ vs ∧ j < σ.length) := by
        rw [List.mem_cons]
        constructor
        · rintro ⟨z | z, h⟩
          · exact absurd z.symm hv
          · exact ⟨z, h⟩
        · rintro ⟨z, h⟩
          exact ⟨.inr z, h⟩
      simp only [e]
theorem wipe_set {i : Nat} {x : Option V} {vs : List Nat} (h : i ∈ vs) : wipe (σ.set i x) vs = wipe σ vs := by
  apply List.ext_getElem?
  intro j
  rw [wipe_at, wipe_at, List.length_set]
  by_cases hj : j ∈ vs ∧ j < σ.length
  · rw [if_pos hj, if_pos hj]
  · rw [if_neg hj, if_neg hj]
    by_cases hi : i = j
    · subst hi
      have hl : ¬ i < σ.length := fun z => hj ⟨h, z⟩
      rw [List.getElem?_eq_none (by rw [List.length_set]; omega), List.getElem?_eq_none (by omega)]
    · rw [List.getElem?_set_ne hi]
end
/-! ### targets -/
def EGs (X : Cx) (ts : List Expr) : TGs := fun vs σ H Q => ∀ (pins : List (Addr × Obj)) (s : Shared) (us : List Value), Inv X pins σ H s → Vals vs us → wpAny (model X.prog X.w) X.A (assignInOrder ((assignEach ts X.env).map (·.2)) us) (fun _ s' => ∃ σ' H', Inv X pins σ' H' s' ∧ Q σ' H') X.xe s
theorem pges {X : Cx} {ts : List Expr} : PGs X ts (EGs X ts) := ⟨fun pins s σ H vs us Q I r h => h pins s us I r⟩
theorem EGs.of {X : Cx} {ts : List Expr} {t : TGs} {vs : List V} {σ : L2.St} {H : Hp} {Q : L2.St → Hp → Prop} (h : PGs X ts t) (q : t vs σ H Q) : EGs X ts vs σ H Q := fun pins s us I r => h.run pins s σ H vs us Q I r q
section
variable (X : Cx) (W : Wd) (S : List Addr) (G : List (Addr × MO))
def GD (js : List Nat) (tg : Expr) (δ : List Sl) (d : PyData) (δ' : List Sl) : Prop := ∀ (σ : L2.St) (H : Hp) (v : V), Ctx X.K W S G δ σ H → Rp X.K S H d v → ∀ Q : L2.St → Hp → Prop, (∀ σ', Ctx X.K W S G δ' σ' H → (∀ vs, (∀ j ∈ js, j ∈ vs) → wipe σ' vs = wipe σ vs) → Q σ' H) → EG X tg v σ H Q
def GDs (js : List Nat) (ts : List Expr) (δ : List Sl) (ds : List PyData) (δ' : List Sl) : Prop := ∀ (σ : L2.St) (H : Hp) (vs : List V), Ctx X.K W S G δ σ H → Rps X.K S H ds vs → ∀ Q : L2.St → Hp → Prop, (∀ σ', Ctx X.K W S G δ' σ' H → (∀ vs, (∀ j ∈ js, j ∈ vs) → wipe σ' vs = wipe σ vs) → Q σ' H) → EGs X ts vs σ H Q
end
section
variable {X : Cx} {W : Wd} {S : List Addr} {G : List (Addr × MO)} {δ δ' δ'' : List Sl} {a b c e tg : Expr} {es : List Expr} {P Pa Pb : PyData → Prop} {pos : Pos} {σ : L2.St} {H : Hp} {D : Ends} {r : List Stmt} {d : PyData} {ds : List PyData} {js ks : List Nat}
theorem gd_name (i : Nat) {x : Str} (hN : X.N.Nodup) (hi : X.N[i]? = some x := by rfl) (hx : Loc X.env.scope x := by first | exact Or.inl rfl | exact Or.inr rfl) (hf : X.fn x = true ∨ X.env.scope.names.lookup x = some .local := by first | exact .inl rfl | exact .inr rfl | assumption) : GD X W S G [i] (.Name x pos) δ d (δ.set i (.d d)) := fun σ H v C rv Q q =>
  EG.of (pg_name hN hi hx hf) (q _ (C.set i ⟨v, rfl, rv⟩) fun vs hv => wipe_set (hv i (by simp)))
theorem gds_nil : GDs X W S G [] [] δ [] δ := fun σ H vs C rs Q q => by
  have rs : vs = [] := rs
  exact EGs.of pgs_nil ⟨rs, q σ C fun _ _ => rfl⟩
theorem gds_cons (h : GD X W S G js e δ d δ') (g : GDs X W S G ks es δ' ds δ'') (hs : (assignEach (e :: es) X.env).map (·.2) = assign e X.env :: (assignEach es X.env).map (·.2) := by rfl) : GDs X W S G (js ++ ks) (e :: es) δ (d :: ds) δ'' := fun σ H vs C rs Q q => by
  obtain ⟨v, vs', rfl, r1, r2⟩ := rs
  refine EGs.of (pgs_cons pge pges hs) ⟨v, vs', rfl, h σ H v C r1 _ fun σ1 C1 w1 => g σ1 H vs' C1 r2 _ fun σ2 C2 w2 => q σ2 C2 fun ws hw => ?_⟩
  rw [w2 ws fun j hj => hw j (List.mem_append_right _ hj), w1 ws fun j hj => hw j (List.mem_append_left _ hj)]
theorem gd_tup {k : Nat} (hc : X.calm = true) (h : GDs X W S G js es δ ds δ') (hl : ds.length = es.length) (hn : (assignEach es X.env).length = es.length := by rfl) (hst : (assignEach es X.env).findIdx? (·.1) = none := by rfl) : GD X W S G js (.Tuple es k pos) δ (.tuple ds) δ' := fun σ H v C rv Q q => by
  obtain ⟨a, xs, rfl, ht, rs⟩ := rv
  exact EG.of (pg_tup hc pges hn hst) ⟨a, xs, rfl, ht.sq, by rw [rs.len, hl], h σ H xs C rs Q q⟩
/-- a, b, .. = e (a tuple) -/
theorem ss_tup {k : Nat} {ts : List Expr} {δ' : PyData → List Sl} (C : Ctx X.K W S G δ σ H) (he : DE X W S G δ e P) (hg : ∀ d, P d → GD X W S G js (.Tuple ts k pos) δ d (δ' d)) (q : ∀ d σ' H', Ctx X.K W S G (δ' d) σ' H' → Stp W.M H H' → P d → SS X r D σ' H')
    (hs : swapsWithSole [.Tuple ts k pos] e pos'.line X.env = pure false := by rfl) (hw : swappedStores [.Tuple ts k pos] e X.env = pure none := by rfl) (h1 : (assignEach [.Tuple ts k pos] X.env).map (·.2) = [assign (.Tuple ts k pos) X.env] := by rfl) : SS X (.Assign [.Tuple ts k pos] e pos' :: r) D σ H :=
  ss_cons (S1.of (ps_asg pee pge hs hw h1) (he σ H C _ fun v H' d C' st p rv => hg d p σ H' v C' rv _ fun σ' C2 _ => q d σ' H' C2 st p))
/-- a, b = e1, e2, plain local names -/
theorem ss_par (i j : Nat) {x y : Str} {px py pt : Pos} {kt k2 : Nat} {pt2 : Pos} (C : Ctx X.K W S G δ σ H) (ha : DE X W S G δ a Pa) (hb : ∀ da, Pa da → DE X W S G δ b Pb) (q : ∀ da db σ' H', Ctx X.K W S G ((δ.set i (.d da)).set j (.d db)) σ' H' → Stp W.M H H' → Pa da → Pb db → SS X r D σ' H')
    (hc : X.calm = true) (hN : X.N.Nodup) (hij : i ≠ j) (hp : PS X (.Assign [.Tuple [.Name x px, .Name y py] kt pt] (.Tuple [a, b] k2 pt2) pos) (tPar i j (tCons (EE X a) (tCons (EE X b) tNil)))) :
    SS X (.Assign [.Tuple [.Name x px, .Name y py] kt pt] (.Tuple [a, b] k2 pt2) pos :: r) D σ H :=
  ss_cons (S1.of hp (ha σ H C _ fun v H1 da C1 s1 pa ra => hb da pa σ H1 C1 _ fun w H2 db C2 s2 pb rb => ⟨v, w, rfl, q da db _ H2 ((C2.set i (s := .d da) ⟨v, rfl, C1.mv s2 ra⟩).set j (s := .d db) ⟨w, rfl, rb⟩) (s1.trans s2) pa pb⟩))
/-! ### for -/
theorem ss_for {y : PyData} (C : Ctx X.K W S G δ σ H) (he : DE X W S G δ e (fun z => z = y)) (hy : seqOf y = some ds) (Iv : Hp → Nat → L2.St → Hp → Prop) {body : List Stmt}
    (h0 : ∀ H1, Ctx X.K W S G δ σ H1 → Stp W.M H H1 → Iv H1 0 σ H1) (hst : ∀ H1 i σ' H', Iv H1 i σ' H' → Stp S H1 H')
    (hs : ∀ H1 i d σ' H' v, Stp W.M H H1 → ds[i]? = some d → Iv H1 i σ' H' → Rp X.K S H' d v → EG X tg v σ' H' fun σ2 H2 => SS X body { D with nx := Iv H1 (i + 1), ct := Iv H1 (i + 1), bk := SS X r D } σ2 H2)
    (hd : ∀ H1 σ' H', Stp W.M H H1 → Iv H1 ds.length σ' H' → SS X r D σ' H') (hc : X.calm = true) (hp : PassesOwn (model X.prog X.w) X.A X.env X.xe) (hf : ∀ x, foldedSetIterable e X.env x = pure x := by intro _; rfl) : SS X (.For tg e body [] pos :: r) D σ H := by
  have key : ∀ (v : V) H1, Ctx X.K W S G δ σ H1 → Stp W.M H H1 → Rp X.K S H1 y v → ∀ xs : List V, Rps X.K S H1 ds xs → ∀ i x σ' H', xs[i]? = some x → Iv H1 i σ' H' → EG X tg x σ' H' fun σ2 H2 => SS X body { D with nx := Iv H1 (i + 1), ct := Iv H1 (i + 1), bk := SS X r D } σ2 H2 := fun v H1 C1 s1 rv xs rs i x σ' H' hx iv => by
    obtain ⟨d, hd', rd⟩ := rs.getV hx
    exact hs H1 i d σ' H' x s1 hd' iv (rd.mv fun b o e n => ⟨hst H1 i σ' H' iv b o e n, n⟩)
  cases y with
  | tuple es' =>
    cases hy
    refine ss_cons (S1.of (ps_for hp hc (pi_tup pee) pge psse hf) (he σ H C _ fun v H1 d C1 s1 e1 rv => ?_))
    subst e1
    have rv0 := rv
    obtain ⟨p, xs, rfl, ht, rs⟩ := rv
    refine ⟨p, rfl, ⟨xs, ht.sq⟩, for_tup (Iv H1) (h0 H1 C1 s1) (fun i σ' H' _ iv => ?_) (fun i x σ' H' hx iv => key _ H1 C1 s1 rv0 xs rs i x σ' H' hx iv) (fun σ' H' iv => ?_)⟩
    · rcases ht with ⟨n, e⟩ | ht
      · exact .inl (.inl (hst H1 i σ' H' iv p _ e n))
      · exact .inr ht
    · rw [rs.len] at iv
      exact hd H1 σ' H' s1 iv
  | list es' =>
    cases hy
    refine ss_cons (S1.of (ps_for hp hc (pi_list pee) pge psse hf) (he σ H C _ fun v H1 d C1 s1 e1 rv => ?_))
    subst e1
    have rv0 := rv
    obtain ⟨p, xs, rfl, ⟨n, e⟩, rs⟩ := rv
    refine ⟨p, rfl, ⟨xs, .inl (.inl e)⟩, for_list (Iv H1) (h0 H1 C1 s1) (fun i σ' H' _ iv => .inl (.inl (hst H1 i σ' H' iv p _ e n))) (fun i x σ' H' hx iv => key _ H1 C1 s1 rv0 xs rs i x σ' H' hx iv) (fun σ' H' iv => ?_)⟩
    rw [rs.len] at iv
    exact hd H1 σ' H' s1 iv
  | _ => cases hy
theorem ss_forR {n : Int} {p1 p2 : Pos} (C : Ctx X.K W S G δ σ H) (he : DE X W S G δ e (fun z => z = .int n)) (hn : n ≤ 1000000) (hn0 : 0 ≤ n) (Iv : Hp → Nat → L2.St → Hp → Prop) {body : List Stmt}
    (h0 : ∀ H1, Ctx X.K W S G δ σ H1 → Stp W.M H H1 → Iv H1 0 σ H1)
    (hs : ∀ H1 (i : Nat) σ' H', Stp W.M H H1 → (i : Int) < n → Iv H1 i σ' H' → EG X tg (.int (i : Int)) σ' H' fun σ2 H2 => SS X body { D with nx := Iv H1 (i + 1), ct := Iv H1 (i + 1), bk := SS X r D } σ2 H2)
    (hd : ∀ H1 σ' H', Stp W.M H H1 → Iv H1 n.toNat σ' H' → SS X r D σ' H') (hm : X.mg "range" = none) (hc : X.calm = true) (hp : PassesOwn (model X.prog X.w) X.A X.env X.xe) (hg : Gl X "range" := by rfl) (hf : ∀ x, foldedSetIterable (.Call (.Name "range" p1) [e] [] p2) X.env x = pure x := by intro _; rfl)
    (na : starEach [e] X.env = (false, eval e X.env) :: starEach [] X.env := by exact star_cons rfl) (nb : starEach [e] X.env = [(false, eval e X.env)] := by rfl) : SS X (.For tg (.Call (.Name "range" p1) [e] [] p2) body [] pos :: r) D σ H := by
  refine ss_cons (S1.of (ps_for hp hc (pi_range1 hg hm (pa_cons pee pa_nil na) nb) pge psse hf) (he σ H C _ fun v H1 d C1 s1 e1 rv => ?_))
  subst e1
  have rv : v = .int n := rv
  subst rv
  refine ⟨n, rfl, by omega, by omega, for_range (lo := 0) (n := n.toNat) (Iv H1) (h0 H1 C1 s1) (fun i σ' H' hi iv => ?_) (fun σ' H' iv => hd H1 σ' H' s1 iv)⟩
  rw [Int.zero_add]
  exact hs H1 i σ' H' s1 (by omega) iv
/-! ### list comprehensions -/
def ETs (X : Cx) (ifs : List Expr) : TT := fun σ H Q => ∀ (pins : List (Addr × Obj)) (s : Shared), Inv X pins σ H s → wpAny (model X.prog X.w) X.A (forIn ifs true fun c r => if r = true then do let ok ← isTrue c X.env (eval c X.env); pure (ForInStep.yield ok) else pure (ForInStep.yield r)) (TP X pins σ Q) X.xe s
def BEs (X : Cx) (W : Wd) (S : List Addr) (G : List (Addr × MO)) (δ : List Sl) (ifs : List Expr) (P : Bool → Prop) : Prop := ∀ (σ : L2.St) (H : Hp), Ctx X.K W S G δ σ H → ∀ Q : Bool → Hp → Prop, (∀ b H', Ctx X.K W S G δ σ H' → Stp W.M H H' → P b → Q b H') → ETs X ifs σ H Q
theorem bes_nil : BEs X W S G δ [] (fun b => b = true) := fun σ H C Q q pins s I => pts_nil.run pins s σ H Q I (q true H C .refl rfl)
theorem bes_one {P : Bool → Prop} (h : BE X W S G δ c P) : BEs X W S G δ [c] P := fun σ H C Q q pins s I => (pts_one pet).run pins s σ H Q I (h σ H C Q q)
def blkX (X : Cx) (scope : Scope) (s : Shared) (H : Hp) (C : Addr) (cl : List (Str × Addr)) (fp : List Addr) : Cx := X.blk s H scope (compEnvC scope cl C X.env) fp
/-- one turn of a comprehension: from the turn's item to the item added, if any -/
def LcTurn (X : Cx) (scope : Scope) (W : Wd) (S : List Addr) (G : List (Addr × MO)) (δ : List Sl) (tg : Expr) (ifs : List Expr) (elt : Expr) (js : List Nat) (d : PyData) (P : Option PyData → Prop) : Prop :=
  ∃ δ' Pt Pe, (∀ s H C cl fp, GD (blkX X scope s H C cl fp) W S G js tg δ d δ') ∧ (∀ s H C cl fp, BEs (blkX X scope s H C cl fp) W S G δ' ifs Pt) ∧ (Pt true → ∀ s H C cl fp, DE (blkX X scope s H C cl fp) W S G δ' elt Pe) ∧ (Pt false → P none) ∧ ∀ d', Pt true → Pe d' → P (some d')
/-- what the turns of a comprehension add up to -/
def LcRel (R : Nat → Option PyData → Prop) : Nat → List PyData → Prop
  | 0, es => es = []
  | n + 1, es => (R n none ∧ LcRel R n es) ∨ ∃ es' e, es = es' ++ [e] ∧ R n (some e) ∧ LcRel R n es'
theorem LcRel.len {R : Nat → Option PyData → Prop} : ∀ {n : Nat} {es : List PyData}, LcRel R n es → es.length ≤ n
  | 0, es, h => by
    have h : es = [] := h
    rw [h] <;> exact Nat.zero_le _
  | n + 1, es, h => by
    rcases h with ⟨_, h⟩ | ⟨es', e, rfl, _, h⟩
    · have := LcRel.len h; omega
    · have := LcRel.len h
      rw [List.length_append, List.length_singleton]; omega
/-- a comprehension by a function -/
theorem LcRel.fm {R : Nat → Option PyData → Prop} {ds : List PyData} {f : PyData → Option PyData} (h : ∀ i d o, ds[i]? = some d → R i o → o = f d) : ∀ {n : Nat} {es : List PyData}, n ≤ ds.length → LcRel R n es → es = (ds.take n).filterMap f
  | 0, es, _, q => q
  | n + 1, es, hn, q => by
    have hl : n < ds.length := by omega
    have e1 : ds[n]? = some ds[n] := List.getElem?_eq_getElem hl
    rw [List.take_add_one, e1, List.filterMap_append]
    rcases q with ⟨r, q⟩ | ⟨es', e, rfl, r, q⟩
    · have z := h n _ none e1 r
      rw [LcRel.fm h (by omega) q]
      simp [← z]
    · have z := h n _ (some e) e1 r
      rw [LcRel.fm h (by omega) q]
      simp [← z]
/-- a comprehension without tests -/
theorem LcRel.all {R : Nat → Option PyData → Prop} (h : ∀ i, ¬ R i none) : ∀ {n : Nat} {es : List PyData}, LcRel R n es → es.length = n ∧ ∀ i e, es[i]? = some e → R i (some e)
  | 0, es, q => by
    have q : es = [] := q
    rw [q]
    exact ⟨rfl, fun i e z => by simp at z⟩
  | n + 1, es, q => by
    rcases q with ⟨r, q⟩ | ⟨es', e, rfl, r, q⟩
    · exact absurd r (h n)
    · obtain ⟨h1, h2⟩ := LcRel.all h q
      refine ⟨by rw [List.length_append, List.length_singleton, h1], fun i e' z => ?_⟩
      by_cases hi : i < es'.length
      · rw [List.getElem?_append_left hi] at z
        exact h2 i e' z
      · rw [List.getElem?_append_right (by omega)] at z
        have hz : i - es'.length = 0 := by
          cases q2 : i - es'.length with
          | zero => rfl
          | succ k => rw [q2] at z; simp at z
        rw [hz] at z
        have e1 : i = n := by omega
        simp at z
        rw [e1, ← z]
        exact r
theorem wipe_wipe {vs : List Nat} : wipe (wipe σ vs) vs = wipe σ vs := by
  apply List.ext_getElem?
  intro j
  rw [wipe_at, wipe_at, wipe_length]
  by_cases h : j ∈ vs ∧ j < σ.length
  · rw [if_pos h, if_pos h]
  · rw [if_neg h, if_neg h]
abbrev bG (X : Cx) (scope : Scope) (tg : Expr) : TG := fun v σ H Q => ∀ (s : Shared) (H0 : Hp) (C : Addr) (cl : List (Str × Addr)) (fp : List Addr), EG (blkX X scope s H0 C cl fp) tg v σ H Q
abbrev bT (X : Cx) (scope : Scope) (ifs : List Expr) : TT := fun σ H Q => ∀ (s : Shared) (H0 : Hp) (C : Addr) (cl : List (Str × Addr)) (fp : List Addr), ETs (blkX X scope s H0 C cl fp) ifs σ H Q
abbrev bE (X : Cx) (scope : Scope) (e : Expr) : TE := fun σ H Q => ∀ (s : Shared) (H0 : Hp) (C : Addr) (cl : List (Str × Addr)) (fp : List Addr), EE (blkX X scope s H0 C cl fp) e σ H Q
theorem pe_lcB {elt iter : Expr} {ifs : List Expr} {scope : Scope} {own : List (Str × Nat)} {wi : TI} (hc : X.calm = true) (hN : X.N.Nodup) (hi : PI X tg iter wi) (ok : BlkOk X.N X.env.scope scope own) (hs : ∀ x, foldedSetIterable iter X.env x = pure x := by intro _; rfl) :
    PE X (.ListComp elt [⟨tg, iter, ifs, 0⟩] scope pos) (tLc wi (bG X scope tg) (bT X scope ifs) (bE X scope elt) (own.map (·.2))) :=
  pe_lc hc hN hi ok (fun s H C cl fp => ⟨fun pins s' σ H' v u Q I r h => h s H C cl fp pins s' u I r⟩) (fun s H C cl fp => ⟨fun pins s' σ H' Q I h => h s H C cl fp pins s' I⟩) (fun s H C cl fp => ⟨fun pins s' σ H' Q I h => h s H C cl fp pins s' I⟩) hs
theorem lc_turn {vs : List Nat} {scope : Scope} {elt : Expr} {ifs : List Expr} {R : Option PyData → Prop} {DA : Addr} {acc : List PyData} {v : V}
    (ht : LcTurn X scope W (DA :: S) ((DA, .lst acc) :: G) (wipeD δ vs) tg ifs elt js d R) (hj : ∀ j ∈ js, j ∈ vs)
    (C : Ctx X.K W (DA :: S) ((DA, .lst acc) :: G) δ σ H) (hnG : ∀ q ∈ G, q.1 ≠ DA) (rv : Rp X.K (DA :: S) H d v) (hz : acc.length < 1000) {K2 : Hp → Prop}
    (k0 : ∀ H', Ctx X.K W (DA :: S) ((DA, .lst acc) :: G) δ σ H' → Stp (DA :: W.M) H H' → R none → K2 H')
    (k1 : ∀ H' e, Ctx X.K W (DA :: S) ((DA, .lst (acc ++ [e])) :: G) δ σ H' → Stp (DA :: W.M) H H' → R (some e) → K2 H') :
    bG X scope tg v (wipe σ vs) H fun σ2 H2 => wipe σ2 vs = wipe σ vs ∧ bT X scope ifs σ2 H2 fun b H3 =>
        if b = true then bE X scope elt σ2 H3 fun y H4 => ∃ acc, H4 DA = some (.lst acc) ∧ acc.length < sizeLine ∧ K2 (upd H4 DA (.lst (acc ++ [y]))) else K2 H3 := by
  obtain ⟨δ1, Pt, Pe, g1, g2, g3, g4, g5⟩ := ht
  have Cw : Ctx X.K W (DA :: S) ((DA, .lst acc) :: G) (wipeD δ vs) (wipe σ vs) H := ⟨C.env.wipe _, C.deal, C.ms, C.objs, C.trk, C.fr⟩
  intro s HZ Cb cl fp
  refine g1 s HZ Cb cl fp _ H v Cw rv _ fun σ2 C2 w2 => ⟨?_, fun s HZ Cb cl fp => ?_⟩
  · rw [w2 _ hj, wipe_wipe]
  -- back to the slots outside
  have out : ∀ {H' : Hp}, Ctx X.K W (DA :: S) ((DA, .lst acc) :: G) δ1 σ2 H' → Stp W.M H H' → Ctx X.K W (DA :: S) ((DA, .lst acc) :: G) δ σ H' := fun {H'} C' st => ⟨C.env.mv (st.mv fun x hx => (C.ms x hx).1), C'.deal, C'.ms, C'.objs, C'.trk, C'.fr⟩
  refine g2 s HZ Cb cl fp σ2 H C2 _ fun b H3 C3 s3 pb => ?_
  cases b with
  | false => exact iteF (k0 H3 (out C3 s3) (s3.mono fun x hx => List.mem_cons_of_mem _ hx) (g4 pb))
  | true =>
    refine iteT fun s HZ Cb cl fp => g3 pb s HZ Cb cl fp σ2 H3 C3 _ fun y H4 e C4 s4 pe re => ?_
    have C4' := out C4 (s3.trans s4)
    obtain ⟨⟨xs, hl, rs⟩, haS, haM, _⟩ := C4'.objs _ List.mem_cons_self
    refine ⟨xs, hl, by rw [rs.len]; exact small1000 (Nat.le_of_lt hz), ?_⟩
    have m : Mv (DA :: S) (DA :: S) H4 (upd H4 DA (.lst (xs ++ [y]))) := fun b u e n => ⟨by rw [upd_ne (fun z => n (by rw [z]; exact List.mem_cons_self))]; exact e, n⟩
    refine k1 _ e (C4'.wr (y := .lst (acc ++ [e])) List.mem_cons_self (fun q hq => ?_) ⟨xs ++ [y], upd_same, (rs.app (.one re)).mv m⟩) (((s3.trans s4).mono fun x hx => List.mem_cons_of_mem _ hx).trans (Stp.wr List.mem_cons_self)) (g5 e pb pe)
    rcases List.mem_cons.mp hq with z | hq
    · exact .inl z
    · exact .inr ⟨List.mem_cons_of_mem _ hq, hnG q hq⟩
/-- [elt for tg in data if ..] -/
theorem lcQ {own : List (Str × Nat)} {scope : Scope} {elt iter : Expr} {ifs : List Expr} {y : PyData} (he : DE X W S G δ iter (fun z => z = y)) (hy : seqOf y = some ds) (hlen : ds.length ≤ 999) (hj : ∀ j ∈ js, j ∈ own.map (·.2)) (R : Nat → Option PyData → Prop)
    (ht : ∀ i d DA acc, DA ∉ S → ds[i]? = some d → LcTurn X scope W (DA :: S) ((DA, .lst acc) :: G) (wipeD δ (own.map (·.2))) tg ifs elt js d (R i)) {σ : L2.St} {H : Hp} (C : Ctx X.K W S G δ σ H) {Q : VK}
    (q : ∀ p H' es xs, Ctx X.K W S G δ σ H' → Stp W.M H H' → H p = none → H' p = some (.lst xs) → LcRel R ds.length es → Rps X.K (p :: S) H' es xs → Q (.ref p) H') :
    (∃ es, y = .tuple es ∧ tLc (iTup X.K (EE X iter)) (bG X scope tg) (bT X scope ifs) (bE X scope elt) (own.map (·.2)) σ H Q) ∨ (∃ es, y = .list es ∧ tLc (iList X.K (EE X iter)) (bG X scope tg) (bT X scope ifs) (bE X scope elt) (own.map (·.2)) σ H Q) := by
  -- the turns
  have key : ∀ (H1 : Hp) (xs : List V) (DA : Addr) (st : ∀ H', Stp S H1 H' → Prop), Ctx X.K W S G δ σ H1 → Stp W.M H H1 → Rps X.K S H1 ds xs → H1 DA = none →
      ∃ Pv : Nat → Hp → Prop, Pv 0 (upd H1 DA (.lst [])) ∧ (∀ i H', Pv i H' → Stp (DA :: W.M) (upd H1 DA (.lst [])) H') ∧
        (∀ i x H', xs[i]? = some x → Pv i H' → bG X scope tg x (wipe σ (own.map (·.2))) H' fun σ2 H2 => wipe σ2 (own.map (·.2)) = wipe σ (own.map (·.2)) ∧ bT X scope ifs σ2 H2 fun b H3 =>
          if b = true then bE X scope elt σ2 H3 fun y H4 => ∃ acc, H4 DA = some (.lst acc) ∧ acc.length < sizeLine ∧ Pv (i + 1) (upd H4 DA (.lst (acc ++ [y]))) else Pv (i + 1) H3) ∧ ∀ H', Pv xs.length H' → Q (.ref DA) H' := by
    intro H1 xs DA _ C1 s1 rs hDA
    have hDS : DA ∉ S := C1.trk.out hDA
    have hnG : ∀ q ∈ G, q.1 ≠ DA := fun q hq z => hDS (by rw [← z]; exact (C1.objs q hq).2.1)
    have C1' : Ctx X.K W (DA :: S) ((DA, .lst []) :: G) δ σ (upd H1 DA (.lst [])) := C1.vol hDA ⟨[], upd_same, rfl⟩
    have s0 : Stp [] H1 (upd H1 DA (.lst [])) := Stp.new hDA
    refine ⟨fun i H' => ∃ acc, Ctx X.K W (DA :: S) ((DA, .lst acc) :: G) δ σ H' ∧ LcRel R i acc ∧ Stp (DA :: W.M) (upd H1 DA (.lst [])) H', ⟨[], C1', rfl, .refl⟩, fun i H' ⟨_, _, _, s⟩ => s, fun i x H' hx ⟨acc, C', rel, s'⟩ => ?_, fun H' ⟨acc, C', rel, s'⟩ => ?_⟩
    · obtain ⟨d, hd, rd⟩ := rs.getV hx
      have rd' : Rp X.K (DA :: S) H' d x := rd.mv fun b o e n => by
        have hb : b ≠ DA := ne_of_none e hDA
        have n' : b ∉ DA :: W.M := fun z => by
          rcases List.mem_cons.mp z with z | z
          · exact hb z
          · exact n (C1.ms b z).1
        refine ⟨s' b o (by rw [upd_ne hb]; exact e) n', fun z => ?_⟩
        rcases List.mem_cons.mp z with z | z
        · exact hb z
        · exact n z
      have hi : i < ds.length := (List.getElem?_eq_some_iff.mp hd).1
      have hz := rel.len
      exact lc_turn (ht i d DA acc hDS hd) hj C' hnG rd' (by omega) (fun H2 C2 s2 r => ⟨acc, C2, .inl ⟨r, rel⟩, s'.trans s2⟩) (fun H2 e C2 s2 r => ⟨acc ++ [e], C2, .inr ⟨acc, e, rfl, r, rel⟩, s'.trans s2⟩)
    · obtain ⟨⟨ys, hl, rys⟩, _⟩ := C'.objs _ List.mem_cons_self
      have CS : Ctx X.K W S G δ σ H' := C'.drop hDS (fun q hq => (C1.objs q hq).2.1) fun a ha => (C1.ms a ha).1
      rw [rs.len] at rel
      refine q DA H' acc ys CS (s1.trans fun b o e n => ?_) (C.back C1 s1 hDA) hl rel rys
      have hb : b ≠ DA := ne_of_none e hDA
      refine s' b o (by rw [upd_ne hb]; exact e) fun z => ?_
      rcases List.mem_cons.mp z with z | z
      · exact hb z
      · exact n z
  cases y with
  | tuple es' =>
    cases hy
    refine .inl ⟨_, rfl, he σ H C _ fun v H1 d C1 s1 e1 rv => ?_⟩
    subst e1
    obtain ⟨p, xs, rfl, ht', rs⟩ := rv
    refine ⟨p, rfl, ⟨xs, ht'.sq⟩, fun DA hDA => ?_⟩
    obtain ⟨Pv, p0, p1, p2, p3⟩ := key H1 xs DA (fun _ _ => True) C1 s1 rs hDA
    refine lc_tup Pv p0 (fun i H' _ pv => ?_) p2 p3
    rcases ht' with ⟨n, e⟩ | ht'
    · have hb : p ≠ DA := ne_of_none e hDA
      refine .inl (.inl (p1 i H' pv p _ (by rw [upd_ne hb]; exact e) fun z => ?_))
      rcases List.mem_cons.mp z with z | z
      · exact hb z
      · exact n (C1.ms p z).1
    · exact .inr ht'
  | list es' =>
    cases hy
    refine .inr ⟨_, rfl, he σ H C _ fun v H1 d C1 s1 e1 rv => ?_⟩
    subst e1
    obtain ⟨p, xs, rfl, ⟨n, e⟩, rs⟩ := rv
    refine ⟨p, rfl, ⟨xs, .inl (.inl e)⟩, fun DA hDA => ?_⟩
    obtain ⟨Pv, p0, p1, p2, p3⟩ := key H1 xs DA (fun _ _ => True) C1 s1 rs hDA
    refine lc_list Pv p0 (fun i H' _ pv => ?_) p2 p3
    have hb : p ≠ DA := ne_of_none e hDA
    refine .inl (.inl (p1 i H' pv p _ (by rw [upd_ne hb]; exact e) fun z => ?_))
    rcases List.mem_cons.mp z with z | z
    · exact hb z
    · exact n (C1.ms p z).1
  | _ => cases hy
theorem ne_lc {own : List (Str × Nat)} {scope : Scope} {elt iter : Expr} {ifs : List Expr} {y : PyData} (he : DE X W S G δ iter (fun z => z = y)) (hy : seqOf y = some ds) (hlen : ds.length ≤ 999) (hj : ∀ j ∈ js, j ∈ own.map (·.2)) (R : Nat → Option PyData → Prop)
    (ht : ∀ i d DA acc, DA ∉ S → ds[i]? = some d → LcTurn X scope W (DA :: S) ((DA, .lst acc) :: G) (wipeD δ (own.map (·.2))) tg ifs elt js d (R i))
    (hc : X.calm = true) (hN : X.N.Nodup) (ok : BlkOk X.N X.env.scope scope own) (hs : ∀ x, foldedSetIterable iter X.env x = pure x := by intro _; rfl) : NE X W S G δ (.ListComp elt [⟨tg, iter, ifs, 0⟩] scope pos) (LcRel R ds.length) := fun σ H C Q q => by
  rcases lcQ he hy hlen hj R ht C q with ⟨es, rfl, h⟩ | ⟨es, rfl, h⟩
  · exact EE.of (pe_lcB hc hN (pi_tup pee) ok hs) h
  · exact EE.of (pe_lcB hc hN (pi_list pee) ok hs) h
/-- y = [elt for tg in data if ..] on one line, y a local: the list is data -/
theorem ss_setLc (i : Nat) {x : Str} {py spos : Pos} {own : List (Str × Nat)} {scope : Scope} {elt iter : Expr} {ifs : List Expr} {y : PyData} (C : Ctx X.K W S G δ σ H) (he : DE X W S G δ iter (fun z => z = y)) (hy : seqOf y = some ds) (hlen : ds.length ≤ 999) (hj : ∀ j ∈ js, j ∈ own.map (·.2)) (R : Nat → Option PyData → Prop)
    (ht : ∀ i d DA acc, DA ∉ S → ds[i]? = some d → LcTurn X scope W (DA :: S) ((DA, .lst acc) :: G) (wipeD δ (own.map (·.2))) tg ifs elt js d (R i))
    (k : ∀ es σ' H', Ctx X.K W S G (δ.set i (.d (.list es))) σ' H' → Stp W.M H H' → LcRel R ds.length es → SS X r D σ' H')
    (hc : X.calm = true) (hN : X.N.Nodup) (ok : BlkOk X.N X.env.scope scope own) (hsw : swapsWith (.ListComp elt [⟨tg, iter, ifs, 0⟩] scope pos) (some (.Name x py)) spos.line X.env = pure true) (hi : X.N[i]? = some x := by rfl) (hyl : X.env.scope.names.lookup x = some .local := by rfl) (hs : ∀ x, foldedSetIterable iter X.env x = pure x := by intro _; rfl) :
    SS X (.Assign [.Name x py] (.ListComp elt [⟨tg, iter, ifs, 0⟩] scope pos) spos :: r) D σ H := by
  have fin : ∀ p H' es xs, Ctx X.K W S G δ σ H' → Stp W.M H H' → H p = none → H' p = some (.lst xs) → LcRel R ds.length es → Rps X.K (p :: S) H' es xs → gName i (.ref p) σ H' (SS X r D) := fun p H' es xs C' st hp hl rel rs =>
    k es _ H' (C'.set i ⟨.ref p, rfl, p, xs, rfl, ⟨C.trk.out hp, hl⟩, rs.mv (Mv.sub fun x hx => List.mem_cons_of_mem _ hx)⟩) st rel
  rcases lcQ (Q := fun v H2 => gName i v σ H2 (SS X r D)) he hy hlen hj R ht C fin with ⟨es, rfl, h⟩ | ⟨es, rfl, h⟩
  · exact ss_cons (S1.of (ps_setLc hc hN hi hyl hsw (pi_tup pee) ok (fun s H C cl fp => ⟨fun pins s' σ H' v u Q I r h => h s H C cl fp pins s' u I r⟩) (fun s H C cl fp => ⟨fun pins s' σ H' Q I h => h s H C cl fp pins s' I⟩) (fun s H C cl fp => ⟨fun pins s' σ H' Q I h => h s H C cl fp pins s' I⟩) hs) h)
  · exact ss_cons (S1.of (ps_setLc hc hN hi hyl hsw (pi_list pee) ok (fun s H C cl fp => ⟨fun pins s' σ H' v u Q I r h => h s H C cl fp pins s' u I r⟩) (fun s H C cl fp => ⟨fun pins s' σ H' Q I h => h s H C cl fp pins s' I⟩) (fun s H C cl fp => ⟨fun pins s' σ H' Q I h => h s H C cl fp pins s' I⟩) hs) h)
end
end Dl
/-! text T53 -/
set_option Elab.async false
set_option linter.all false
set_option maxRecDepth 100000
set_option maxHeartbeats 1000000
namespace K53
open PySem PySem.Spec PyProof.Rows L2 Dl
/-! ### the text -/
def top (i : Nat) : Stmt := PySem.Challenge.pw_anypasses_k53_weights.main.body.getD i (.Pass ⟨0, 0, 0, 0⟩)
abbrev s_end_labels : Stmt := top 2
theorem sc_end_labels : FnScope ["end"] ["end"] (defScope s_end_labels) := ⟨rfl, rfl, rfl, by decide +kernel, rfl, by decide +kernel, by decide +kernel⟩
abbrev s_web_of : Stmt := top 3
theorem sc_web_of : FnScope ["function", "label", "params", "ops", "end"] ["function"] (defScope s_web_of) := ⟨rfl, rfl, rfl, by decide +kernel, rfl, by decide +kernel, by decide +kernel⟩
abbrev s_entry_of : Stmt := top 4
theorem sc_entry_of : FnScope ["function"] ["function"] (defScope s_entry_of) := ⟨rfl, rfl, rfl, by decide +kernel, rfl, by decide +kernel, by decide +kernel⟩
abbrev s_found_from : Stmt := top 5
theorem sc_found_from : FnScope ["web", "start", "without", "before", "fresh", "later", "label", "target"] ["web", "start", "without"] (defScope s_found_from) := ⟨rfl, rfl, rfl, by decide +kernel, rfl, by decide +kernel, by decide +kernel⟩
abbrev s_reached_labels : Stmt := top 6
theorem sc_reached_labels : FnScope ["function"] ["function"] (defScope s_reached_labels) := ⟨rfl, rfl, rfl, by decide +kernel, rfl, by decide +kernel, by decide +kernel⟩
abbrev s_op_weight : Stmt := top 10
theorem sc_op_weight : FnScope ["op", "weight"] ["op"] (defScope s_op_weight) := ⟨rfl, rfl, rfl, by decide +kernel, rfl, by decide +kernel, by decide +kernel⟩
abbrev s_reached_ops : Stmt := top 11
theorem sc_reached_ops : FnScope ["function", "reached", "ops", "block", "op"] ["function"] (defScope s_reached_ops) := ⟨rfl, rfl, rfl, by decide +kernel, rfl, by decide +kernel, by decide +kernel⟩
abbrev s_heights : Stmt := top 12
theorem sc_heights : FnScope ["ops", "found", "waiting", "value", "args", "arg", "open_args"] ["ops"] (defScope s_heights) := ⟨rfl, rfl, rfl, by decide +kernel, rfl, by decide +kernel, by decide +kernel⟩
abbrev s_weight : Stmt := top 13
theorem sc_weight : FnScope ["function", "ops", "op"] ["function"] (defScope s_weight) := ⟨rfl, rfl, rfl, by decide +kernel, rfl, by decide +kernel, by decide +kernel⟩
abbrev s_L_draw : Stmt := top 15
theorem sc_L_draw : FnScope ["_law_script", "_law_salt", "_law_cells", "_law_cell", "_law_blend"] ["_law_script", "_law_salt"] (defScope s_L_draw) := ⟨rfl, rfl, rfl, by decide +kernel, rfl, by decide +kernel, by decide +kernel⟩
abbrev s_L_any : Stmt := top 16
theorem sc_L_any : FnScope ["_law_deal", "_law_bound", "_law_rest"] ["_law_deal", "_law_bound"] (defScope s_L_any) := ⟨rfl, rfl, rfl, by decide +kernel, rfl, by decide +kernel, by decide +kernel⟩
abbrev s_L_of : Stmt := top 17
theorem sc_L_of : FnScope ["_law_deal", "_law_some"] ["_law_deal", "_law_some"] (defScope s_L_of) := ⟨rfl, rfl, rfl, by decide +kernel, rfl, by decide +kernel, by decide +kernel⟩
abbrev s_L_mixed : Stmt := top 18
theorem sc_L_mixed : FnScope ["_law_deal", "_law_some", "_law_left", "_law_found"] ["_law_deal", "_law_some"] (defScope s_L_mixed) := ⟨rfl, rfl, rfl, by decide +kernel, rfl, by decide +kernel, by decide +kernel⟩
abbrev s_L_power : Stmt := top 19
theorem sc_L_power : FnScope ["_law_many"] ["_law_many"] (defScope s_L_power) := ⟨rfl, rfl, rfl, by decide +kernel, rfl, by decide +kernel, by decide +kernel⟩
abbrev s_L_number : Stmt := top 20
theorem sc_L_number : FnScope ["_law_deal", "_law_width", "_law_top", "_law_form_here"] ["_law_deal", "_law_width"] (defScope s_L_number) := ⟨rfl, rfl, rfl, by decide +kernel, rfl, by decide +kernel, by decide +kernel⟩
abbrev s_L_form : Stmt := top 21
theorem sc_L_form : FnScope ["_law_deal", "_law_headers", "_law_w", "_law_form_here", "_law_op", "_law_sort", "_law_low", "_law_high", "_law_kind", "_law_told", "_law_near", "_law_header"] ["_law_deal", "_law_headers"] (defScope s_L_form) := ⟨rfl, rfl, rfl, by decide +kernel, rfl, by decide +kernel, by decide +kernel⟩
abbrev s_L_web : Stmt := top 22
theorem sc_L_web : FnScope ["_law_deal", "_law_many", "_law_found", "_law_at", "_law_targets", "_law_turn", "_law_ahead"] ["_law_deal", "_law_many"] (defScope s_L_web) := ⟨rfl, rfl, rfl, by decide +kernel, rfl, by decide +kernel, by decide +kernel⟩
abbrev s_L_reached : Stmt := top 23
theorem sc_L_reached : FnScope ["_law_web_here", "_law_without", "_law_order", "_law_turn", "_law_target"] ["_law_web_here", "_law_without"] (defScope s_L_reached) := ⟨rfl, rfl, rfl, by decide +kernel, rfl, by decide +kernel, by decide +kernel⟩
abbrev s_L_operand : Stmt := top 24
theorem sc_L_operand : FnScope ["_law_deal", "_law_here", "_law_wanted", "_law_names", "_law_some", "_law_value", "_law_sort", "_law_name"] ["_law_deal", "_law_here", "_law_wanted", "_law_names"] (defScope s_L_operand) := ⟨rfl, rfl, rfl, by decide +kernel, rfl, by decide +kernel, by decide +kernel⟩
abbrev s_L_operands : Stmt := top 25
theorem sc_L_operands : FnScope ["_law_deal", "_law_here", "_law_types", "_law_names", "_law_wanted"] ["_law_deal", "_law_here", "_law_types", "_law_names"] (defScope s_L_operands) := ⟨rfl, rfl, rfl, by decide +kernel, rfl, by decide +kernel, by decide +kernel⟩
abbrev s_L_block : Stmt := top 26
theorem sc_L_block : FnScope ["_law_deal", "_law_place", "_law_scene", "_law_here", "_law_headers", "_law_names", "_law_heads", "_law_labels", "_law_numbers", "_law_web_here", "_law_result", "_law_params", "_law_sort", "_law_ops", "_law_turn", "_law_kind", "_law_info", "_law_wanted", "_law_args", "_law_targets", "_law_other", "_law_ending"] ["_law_deal", "_law_place", "_law_scene", "_law_here"] (defScope s_L_block) := ⟨rfl, rfl, rfl, by decide +kernel, rfl, by decide +kernel, by decide +kernel⟩
abbrev s_L_function : Stmt := top 27
theorem sc_L_function : FnScope ["_law_deal", "_law_header", "_law_headers", "_law_names", "_law_many", "_law_web_here", "_law_heads", "_law_turn", "_law_at", "_law_numbers", "_law_scene", "_law_near", "_law_blocks", "_law_made_here", "_law_place", "_law_here", "_law_other", "_law_ahead", "_law_order"] ["_law_deal", "_law_header", "_law_headers", "_law_names"] (defScope s_L_function) := ⟨rfl, rfl, rfl, by decide +kernel, rfl, by decide +kernel, by decide +kernel⟩
abbrev s_L_module : Stmt := top 28
theorem sc_L_module : FnScope ["_law_deal", "_law_headers", "_law_name", "_law_types", "_law_turn", "_law_names", "_law_told", "_law_width", "_law_size", "_law_functions", "_law_header"] ["_law_deal"] (defScope s_L_module) := ⟨rfl, rfl, rfl, by decide +kernel, rfl, by decide +kernel, by decide +kernel⟩
abbrev s_L_made : Stmt := top 29
theorem sc_L_made : FnScope ["_law_op", "_law_kind", "_law_info"] ["_law_op"] (defScope s_L_made) := ⟨rfl, rfl, rfl, by decide +kernel, rfl, by decide +kernel, by decide +kernel⟩
abbrev s_L_pure : Stmt := top 30
theorem sc_L_pure : FnScope ["_law_op"] ["_law_op"] (defScope s_L_pure) := ⟨rfl, rfl, rfl, by decide +kernel, rfl, by decide +kernel, by decide +kernel⟩
abbrev s_L_ways : Stmt := top 31
theorem sc_L_ways : FnScope ["_law_ending"] ["_law_ending"] (defScope s_L_ways) := ⟨rfl, rfl, rfl, by decide +kernel, rfl, by decide +kernel, by decide +kernel⟩
abbrev s_L_web_of : Stmt := top 32
theorem sc_L_web_of : FnScope ["_law_function_here", "_law_labels", "_law_block_here", "_law_target"] ["_law_function_here"] (defScope s_L_web_of) := ⟨rfl, rfl, rfl, by decide +kernel, rfl, by decide +kernel, by decide +kernel⟩
abbrev s_L_spiced : Stmt := top 33
theorem sc_L_spiced : FnScope ["_law_deal", "_law_function_here", "_law_blocks", "_law_label", "_law_params", "_law_ops", "_law_ending", "_law_some", "_law_op", "_law_like", "_law_one", "_law_form_here", "_law_word", "_law_wide", "_law_number_here", "_law_args"] ["_law_deal", "_law_function_here"] (defScope s_L_spiced) := ⟨rfl, rfl, rfl, by decide +kernel, rfl, by decide +kernel, by decide +kernel⟩
abbrev s_L_spicy_module : Stmt := top 34
theorem sc_L_spicy_module : FnScope ["_law_deal", "_law_module_here", "_law_function_here"] ["_law_deal"] (defScope s_L_spicy_module) := ⟨rfl, rfl, rfl, by decide +kernel, rfl, by decide +kernel, by decide +kernel⟩
abbrev s_L_near_weighed : Stmt := top 35
theorem sc_L_near_weighed : FnScope ["_law_function_here", "_law_near", "_law_found", "_law_at", "_law_block_here", "_law_op"] ["_law_function_here"] (defScope s_L_near_weighed) := ⟨rfl, rfl, rfl, by decide +kernel, rfl, by decide +kernel, by decide +kernel⟩
abbrev s_L_op_weight : Stmt := top 36
theorem sc_L_op_weight : FnScope ["_law_op", "_law_word", "_law_more"] ["_law_op"] (defScope s_L_op_weight) := ⟨rfl, rfl, rfl, by decide +kernel, rfl, by decide +kernel, by decide +kernel⟩
abbrev s_L_weight : Stmt := top 37
theorem sc_L_weight : FnScope ["_law_function_here", "_law_ops", "_law_high", "_law_value", "_law_args", "_law_arg"] ["_law_function_here"] (defScope s_L_weight) := ⟨rfl, rfl, rfl, by decide +kernel, rfl, by decide +kernel, by decide +kernel⟩
abbrev s_law : Stmt := top 38
theorem sc_law : FnScope ["_law_script", "_law_deal", "_law_turn", "_law_module_here", "_law_function_here", "_law_ops", "_law_value", "_law_due"] ["_law_script"] (defScope s_law) := ⟨rfl, rfl, rfl, by decide +kernel, rfl, by decide +kernel, by decide +kernel⟩
structure Txt (K : PySem.W.Frag) (mg : Str → Option Value) : Prop where
  F_end_labels : ∃ fd, FunD K "end_labels" "end_labels" (defArgs s_end_labels) (defBody s_end_labels) (defScope s_end_labels) [] [] (He.ga K "end_labels") fd
  g_end_labels : mg "end_labels" = some (.ref (He.ga K "end_labels"))
  F_web_of : ∃ fd, FunD K "web_of" "web_of" (defArgs s_web_of) (defBody s_web_of) (defScope s_web_of) [] [] (He.ga K "web_of") fd
  g_web_of : mg "web_of" = some (.ref (He.ga K "web_of"))
  F_entry_of : ∃ fd, FunD K "entry_of" "entry_of" (defArgs s_entry_of) (defBody s_entry_of) (defScope s_entry_of) [] [] (He.ga K "entry_of") fd
  g_entry_of : mg "entry_of" = some (.ref (He.ga K "entry_of"))
  F_found_from : ∃ fd, FunD K "found_from" "found_from" (defArgs s_found_from) (defBody s_found_from) (defScope s_found_from) [] [] (He.ga K "found_from") fd
  g_found_from : mg "found_from" = some (.ref (He.ga K "found_from"))
  F_reached_labels : ∃ fd, FunD K "reached_labels" "reached_labels" (defArgs s_reached_labels) (defBody s_reached_labels) (defScope s_reached_labels) [] [] (He.ga K "reached_labels") fd
  g_reached_labels : mg "reached_labels" = some (.ref (He.ga K "reached_labels"))
  F_op_weight : ∃ fd, FunD K "op_weight" "op_weight" (defArgs s_op_weight) (defBody s_op_weight) (defScope s_op_weight) [] [] (He.ga K "op_weight") fd
  g_op_weight : mg "op_weight" = some (.ref (He.ga K "op_weight"))
  F_reached_ops : ∃ fd, FunD K "reached_ops" "reached_ops" (defArgs s_reached_ops) (defBody s_reached_ops) (defScope s_reached_ops) [] [] (He.ga K "reached_ops") fd
  g_reached_ops : mg "reached_ops" = some (.ref (He.ga K "reached_ops"))
  F_heights : ∃ fd, FunD K "heights" "heights" (defArgs s_heights) (defBody s_heights) (defScope s_heights) [] [] (He.ga K "heights") fd
  g_heights : mg "heights" = some (.ref (He.ga K "heights"))
  F_weight : ∃ fd, FunD K "weight" "weight" (defArgs s_weight) (defBody s_weight) (defScope s_weight) [] [] (He.ga K "weight") fd
  g_weight : mg "weight" = some (.ref (He.ga K "weight"))
  F_L_draw : ∃ fd, FunD K "_law_draw" "_law_draw" (defArgs s_L_draw) (defBody s_L_draw) (defScope s_L_draw) [] [] (He.ga K "_law_draw") fd
  g_L_draw : mg "_law_draw" = some (.ref (He.ga K "_law_draw"))
  F_L_any : ∃ fd, FunD K "_law_any" "_law_any" (defArgs s_L_any) (defBody s_L_any) (defScope s_L_any) [] [] (He.ga K "_law_any") fd
  g_L_any : mg "_law_any" = some (.ref (He.ga K "_law_any"))
  F_L_of : ∃ fd, FunD K "_law_of" "_law_of" (defArgs s_L_of) (defBody s_L_of) (defScope s_L_of) [] [] (He.ga K "_law_of") fd
  g_L_of : mg "_law_of" = some (.ref (He.ga K "_law_of"))
  F_L_mixed : ∃ fd, FunD K "_law_mixed" "_law_mixed" (defArgs s_L_mixed) (defBody s_L_mixed) (defScope s_L_mixed) [] [] (He.ga K "_law_mixed") fd
  g_L_mixed : mg "_law_mixed" = some (.ref (He.ga K "_law_mixed"))
  F_L_power : ∃ fd, FunD K "_law_power" "_law_power" (defArgs s_L_power) (defBody s_L_power) (defScope s_L_power) [] [] (He.ga K "_law_power") fd
  g_L_power : mg "_law_power" = some (.ref (He.ga K "_law_power"))
  F_L_number : ∃ fd, FunD K "_law_number" "_law_number" (defArgs s_L_number) (defBody s_L_number) (defScope s_L_number) [] [] (He.ga K "_law_number") fd
  g_L_number : mg "_law_number" = some (.ref (He.ga K "_law_number"))
  F_L_form : ∃ fd, FunD K "_law_form" "_law_form" (defArgs s_L_form) (defBody s_L_form) (defScope s_L_form) [] [] (He.ga K "_law_form") fd
  g_L_form : mg "_law_form" = some (.ref (He.ga K "_law_form"))
  F_L_web : ∃ fd, FunD K "_law_web" "_law_web" (defArgs s_L_web) (defBody s_L_web) (defScope s_L_web) [] [] (He.ga K "_law_web") fd
  g_L_web : mg "_law_web" = some (.ref (He.ga K "_law_web"))
  F_L_reached : ∃ fd, FunD K "_law_reached" "_law_reached" (defArgs s_L_reached) (defBody s_L_reached) (defScope s_L_reached) [] [] (He.ga K "_law_reached") fd
  g_L_reached : mg "_law_reached" = some (.ref (He.ga K "_law_reached"))
  F_L_operand : ∃ fd, FunD K "_law_operand" "_law_operand" (defArgs s_L_operand) (defBody s_L_operand) (defScope s_L_operand) [] [] (He.ga K "_law_operand") fd
  g_L_operand : mg "_law_operand" = some (.ref (He.ga K "_law_operand"))
  F_L_operands : ∃ fd, FunD K "_law_operands" "_law_operands" (defArgs s_L_operands) (defBody s_L_operands) (defScope s_L_operands) [] [] (He.ga K "_law_operands") fd
  g_L_operands : mg "_law_operands" = some (.ref (He.ga K "_law_operands"))
  F_L_block : ∃ fd, FunD K "_law_block" "_law_block" (defArgs s_L_block) (defBody s_L_block) (defScope s_L_block) [] [] (He.ga K "_law_block") fd
  g_L_block : mg "_law_block" = some (.ref (He.ga K "_law_block"))
  F_L_function : ∃ fd, FunD K "_law_function" "_law_function" (defArgs s_L_function) (defBody s_L_function) (defScope s_L_function) [] [] (He.ga K "_law_function") fd
  g_L_function : mg "_law_function" = some (.ref (He.ga K "_law_function"))
  F_L_module : ∃ fd, FunD K "_law_module" "_law_module" (defArgs s_L_module) (defBody s_L_module) (defScope s_L_module) [] [] (He.ga K "_law_module") fd
  g_L_module : mg "_law_module" = some (.ref (He.ga K "_law_module"))
  F_L_made : ∃ fd, FunD K "_law_made" "_law_made" (defArgs s_L_made) (defBody s_L_made) (defScope s_L_made) [] [] (He.ga K "_law_made") fd
  g_L_made : mg "_law_made" = some (.ref (He.ga K "_law_made"))
  F_L_pure : ∃ fd, FunD K "_law_pure" "_law_pure" (defArgs s_L_pure) (defBody s_L_pure) (defScope s_L_pure) [] [] (He.ga K "_law_pure") fd
  g_L_pure : mg "_law_pure" = some (.ref (He.ga K "_law_pure"))
  F_L_ways : ∃ fd, FunD K "_law_ways" "_law_ways" (defArgs s_L_ways) (defBody s_L_ways) (defScope s_L_ways) [] [] (He.ga K "_law_ways") fd
  g_L_ways : mg "_law_ways" = some (.ref (He.ga K "_law_ways"))
  F_L_web_of : ∃ fd, FunD K "_law_web_of" "_law_web_of" (defArgs s_L_web_of) (defBody s_L_web_of) (defScope s_L_web_of) [] [] (He.ga K "_law_web_of") fd
  g_L_web_of : mg "_law_web_of" = some (.ref (He.ga K "_law_web_of"))
  F_L_spiced : ∃ fd, FunD K "_law_spiced" "_law_spiced" (defArgs s_L_spiced) (defBody s_L_spiced) (defScope s_L_spiced) [] [] (He.ga K "_law_spiced") fd
  g_L_spiced : mg "_law_spiced" = some (.ref (He.ga K "_law_spiced"))
  F_L_spicy_module : ∃ fd, FunD K "_law_spicy_module" "_law_spicy_module" (defArgs s_L_spicy_module) (defBody s_L_spicy_module) (defScope s_L_spicy_module) [] [] (He.ga K "_law_spicy_module") fd
  g_L_spicy_module : mg "_law_spicy_module" = some (.ref (He.ga K "_law_spicy_module"))
  F_L_near_weighed : ∃ fd, FunD K "_law_near_weighed" "_law_near_weighed" (defArgs s_L_near_weighed) (defBody s_L_near_weighed) (defScope s_L_near_weighed) [] [] (He.ga K "_law_near_weighed") fd
  g_L_near_weighed : mg "_law_near_weighed" = some (.ref (He.ga K "_law_near_weighed"))
  F_L_op_weight : ∃ fd, FunD K "_law_op_weight" "_law_op_weight" (defArgs s_L_op_weight) (defBody s_L_op_weight) (defScope s_L_op_weight) [] [] (He.ga K "_law_op_weight") fd
  g_L_op_weight : mg "_law_op_weight" = some (.ref (He.ga K "_law_op_weight"))
  F_L_weight : ∃ fd, FunD K "_law_weight" "_law_weight" (defArgs s_L_weight) (defBody s_L_weight) (defScope s_L_weight) [] [] (He.ga K "_law_weight") fd
  g_L_weight : mg "_law_weight" = some (.ref (He.ga K "_law_weight"))
  F_law : ∃ fd, FunD K "law" "law" (defArgs s_law) (defBody s_law) (defScope s_law) [] [] (He.ga K "law") fd
  g_law : mg "law" = some (.ref (He.ga K "law"))
  n_abs : mg "abs" = none
  n_enumerate : mg "enumerate" = none
  n_int : mg "int" = none
  n_len : mg "len" = none
  n_list : mg "list" = none
  n_max : mg "max" = none
  n_range : mg "range" = none
  n_repr : mg "repr" = none
  n_sorted : mg "sorted" = none
  n_sum : mg "sum" = none
  n_tuple : mg "tuple" = none
  g_DIVISIONS : mg "DIVISIONS" = some (.ref (He.ga K "DIVISIONS"))
  c_DIVISIONS : He.tupB K "DIVISIONS" [.str "udiv", .str "sdiv", .str "urem", .str "srem"] = true
  g_WEIGHED : mg "WEIGHED" = some (.ref (He.ga K "WEIGHED"))
  c_WEIGHED : He.tupB K "WEIGHED" [.str "bin", .str "cmp", .str "select", .str "cast", .str "at"] = true
  g_TURNED : mg "TURNED" = some (.ref (He.ga K "TURNED"))
  c_TURNED : He.tupB K "TURNED" [.str "add", .str "mul", .str "and", .str "or", .str "xor", .str "eq", .str "ne"] = true
theorem b_end_labels : BindW "end_labels" (defArgs s_end_labels) (defBody s_end_labels) (defScope s_end_labels) ["end"] := fun _ _ _ _ _ _ us hl => match us, hl with | [_], _ => rfl
theorem b_web_of : BindW "web_of" (defArgs s_web_of) (defBody s_web_of) (defScope s_web_of) ["function"] := fun _ _ _ _ _ _ us hl => match us, hl with | [_], _ => rfl
theorem b_entry_of : BindW "entry_of" (defArgs s_entry_of) (defBody s_entry_of) (defScope s_entry_of) ["function"] := fun _ _ _ _ _ _ us hl => match us, hl with | [_], _ => rfl
theorem b_found_from : BindW "found_from" (defArgs s_found_from) (defBody s_found_from) (defScope s_found_from) ["web", "start", "without"] := fun _ _ _ _ _ _ us hl => match us, hl with | [_, _, _], _ => rfl
theorem b_reached_labels : BindW "reached_labels" (defArgs s_reached_labels) (defBody s_reached_labels) (defScope s_reached_labels) ["function"] := fun _ _ _ _ _ _ us hl => match us, hl with | [_], _ => rfl
theorem b_op_weight : BindW "op_weight" (defArgs s_op_weight) (defBody s_op_weight) (defScope s_op_weight) ["op"] := fun _ _ _ _ _ _ us hl => match us, hl with | [_], _ => rfl
theorem b_reached_ops : BindW "reached_ops" (defArgs s_reached_ops) (defBody s_reached_ops) (defScope s_reached_ops) ["function"] := fun _ _ _ _ _ _ us hl => match us, hl with | [_], _ => rfl
theorem b_heights : BindW "heights" (defArgs s_heights) (defBody s_heights) (defScope s_heights) ["ops"] := fun _ _ _ _ _ _ us hl => match us, hl with | [_], _ => rfl
theorem b_weight : BindW "weight" (defArgs s_weight) (defBody s_weight) (defScope s_weight) ["function"] := fun _ _ _ _ _ _ us hl => match us, hl with | [_], _ => rfl
theorem b_L_draw : BindW "_law_draw" (defArgs s_L_draw) (defBody s_L_draw) (defScope s_L_draw) ["_law_script", "_law_salt"] := fun _ _ _ _ _ _ us hl => match us, hl with | [_, _], _ => rfl
theorem b_L_any : BindW "_law_any" (defArgs s_L_any) (defBody s_L_any) (defScope s_L_any) ["_law_deal", "_law_bound"] := fun _ _ _ _ _ _ us hl => match us, hl with | [_, _], _ => rfl
theorem b_L_of : BindW "_law_of" (defArgs s_L_of) (defBody s_L_of) (defScope s_L_of) ["_law_deal", "_law_some"] := fun _ _ _ _ _ _ us hl => match us, hl with | [_, _], _ => rfl
theorem b_L_mixed : BindW "_law_mixed" (defArgs s_L_mixed) (defBody s_L_mixed) (defScope s_L_mixed) ["_law_deal", "_law_some"] := fun _ _ _ _ _ _ us hl => match us, hl with | [_, _], _ => rfl
theorem b_L_power : BindW "_law_power" (defArgs s_L_power) (defBody s_L_power) (defScope s_L_power) ["_law_many"] := fun _ _ _ _ _ _ us hl => match us, hl with | [_], _ => rfl
theorem b_L_number : BindW "_law_number" (defArgs s_L_number) (defBody s_L_number) (defScope s_L_number) ["_law_deal", "_law_width"] := fun _ _ _ _ _ _ us hl => match us, hl with | [_, _], _ => rfl
theorem b_L_form : BindW "_law_form" (defArgs s_L_form) (defBody s_L_form) (defScope s_L_form) ["_law_deal", "_law_headers"] := fun _ _ _ _ _ _ us hl => match us, hl with | [_, _], _ => rfl
theorem b_L_web : BindW "_law_web" (defArgs s_L_web) (defBody s_L_web) (defScope s_L_web) ["_law_deal", "_law_many"] := fun _ _ _ _ _ _ us hl => match us, hl with | [_, _], _ => rfl
theorem b_L_reached : BindW "_law_reached" (defArgs s_L_reached) (defBody s_L_reached) (defScope s_L_reached) ["_law_web_here", "_law_without"] := fun _ _ _ _ _ _ us hl => match us, hl with | [_, _], _ => rfl
theorem b_L_operand : BindW "_law_operand" (defArgs s_L_operand) (defBody s_L_operand) (defScope s_L_operand) ["_law_deal", "_law_here", "_law_wanted", "_law_names"] := fun _ _ _ _ _ _ us hl => match us, hl with | [_, _, _, _], _ => rfl
theorem b_L_operands : BindW "_law_operands" (defArgs s_L_operands) (defBody s_L_operands) (defScope s_L_operands) ["_law_deal", "_law_here", "_law_types", "_law_names"] := fun _ _ _ _ _ _ us hl => match us, hl with | [_, _, _, _], _ => rfl
theorem b_L_block : BindW "_law_block" (defArgs s_L_block) (defBody s_L_block) (defScope s_L_block) ["_law_deal", "_law_place", "_law_scene", "_law_here"] := fun _ _ _ _ _ _ us hl => match us, hl with | [_, _, _, _], _ => rfl
theorem b_L_function : BindW "_law_function" (defArgs s_L_function) (defBody s_L_function) (defScope s_L_function) ["_law_deal", "_law_header", "_law_headers", "_law_names"] := fun _ _ _ _ _ _ us hl => match us, hl with | [_, _, _, _], _ => rfl
theorem b_L_module : BindW "_law_module" (defArgs s_L_module) (defBody s_L_module) (defScope s_L_module) ["_law_deal"] := fun _ _ _ _ _ _ us hl => match us, hl with | [_], _ => rfl
theorem b_L_made : BindW "_law_made" (defArgs s_L_made) (defBody s_L_made) (defScope s_L_made) ["_law_op"] := fun _ _ _ _ _ _ us hl => match us, hl with | [_], _ => rfl
theorem b_L_pure : BindW "_law_pure" (defArgs s_L_pure) (defBody s_L_pure) (defScope s_L_pure) ["_law_op"] := fun _ _ _ _ _ _ us hl => match us, hl with | [_], _ => rfl
theorem b_L_ways : BindW "_law_ways" (defArgs s_L_ways) (defBody s_L_ways) (defScope s_L_ways) ["_law_ending"] := fun _ _ _ _ _ _ us hl => match us, hl with | [_], _ => rfl
theorem b_L_web_of : BindW "_law_web_of" (defArgs s_L_web_of) (defBody s_L_web_of) (defScope s_L_web_of) ["_law_function_here"] := fun _ _ _ _ _ _ us hl => match us, hl with | [_], _ => rfl
theorem b_L_spiced : BindW "_law_spiced" (defArgs s_L_spiced) (defBody s_L_spiced) (defScope s_L_spiced) ["_law_deal", "_law_function_here"] := fun _ _ _ _ _ _ us hl => match us, hl with | [_, _], _ => rfl
theorem b_L_spicy_module : BindW "_law_spicy_module" (defArgs s_L_spicy_module) (defBody s_L_spicy_module) (defScope s_L_spicy_module) ["_law_deal"] := fun _ _ _ _ _ _ us hl => match us, hl with | [_], _ => rfl
theorem b_L_near_weighed : BindW "_law_near_weighed" (defArgs s_L_near_weighed) (defBody s_L_near_weighed) (defScope s_L_near_weighed) ["_law_function_here"] := fun _ _ _ _ _ _ us hl => match us, hl with | [_], _ => rfl
theorem b_L_op_weight : BindW "_law_op_weight" (defArgs s_L_op_weight) (defBody s_L_op_weight) (defScope s_L_op_weight) ["_law_op"] := fun _ _ _ _ _ _ us hl => match us, hl with | [_], _ => rfl
theorem b_L_weight : BindW "_law_weight" (defArgs s_L_weight) (defBody s_L_weight) (defScope s_L_weight) ["_law_function_here"] := fun _ _ _ _ _ _ us hl => match us, hl with | [_], _ => rfl
theorem b_law : BindW "law" (defArgs s_law) (defBody s_law) (defScope s_law) ["_law_script"] := fun _ _ _ _ _ _ us hl => match us, hl with | [_], _ => rfl
end K53
/-! text D5 -/
set_option Elab.async false
set_option linter.all false
set_option maxRecDepth 100000
set_option maxHeartbeats 1000000
namespace Dl
open PySem PySem.Spec PyProof.Rows L2
section
variable {X : Cx} {W : Wd} {S : List Addr} {G : List (Addr × MO)} {δ δ' δ'' : List Sl} {a b c e tg : Expr} {es : List Expr} {P Pa Pb : PyData → Prop} {pos : Pos} {σ : L2.St} {H : Hp} {D : Ends} {r : List Stmt} {d x y : PyData} {ds l : List PyData} {js ks : List Nat}
theorem da_nilE : DAs X W S G δ [] (fun ds => ds = []) := da_nil
theorem da_consE (h : DE X W S G δ e (fun y => y = d)) (hr : DAs X W S G δ es (fun y => y = ds)) (hs : starEach (e :: es) X.env = (false, eval e X.env) :: starEach es X.env := by exact star_cons rfl) : DAs X W S G δ (e :: es) (fun y => y = d :: ds) :=
  (da_cons h hr hs).imp fun z ⟨d', r', e1, e2, e3⟩ => by rw [e1, e2, e3]
theorem de_tupE {x1} (h : DAs X W S G δ es (fun y => y = ds)) (hl : ds.length ≤ 1000 := by first | (simp only [List.length_cons, List.length_nil] <;> omega) | decide) : DE X W S G δ (.Tuple es x1 pos) (fun d => d = .tuple ds) := fun σ H C Q q =>
  EE.of (pe_tup pea) (h σ H C _ fun xs H1 ds' C1 s1 p r => ⟨by rw [r.len, p]; exact Nat.le_of_lt (small1000 hl), fun l hl => by
    have st : Stp [] H1 (upd H1 l (.tup xs)) := Stp.new hl
    exact q _ _ (.tuple ds') (C1.ext st) (s1.trans st.nil) (by rw [p]) ⟨l, xs, rfl, .inl ⟨C1.trk.out hl, upd_same⟩, r.mv (st.mv fun x hx => by cases hx)⟩⟩)
theorem de_lstE (h : DAs X W S G δ es (fun y => y = ds)) (hl : ds.length ≤ 1000 := by first | (simp only [List.length_cons, List.length_nil] <;> omega) | decide) : DE X W S G δ (.List es pos) (fun d => d = .list ds) := (ne_lst h fun z e => by rw [e]; exact hl).de.imp fun z ⟨w, e1, e2⟩ => by rw [e1, e2]
theorem de_ifE {k : Bool} (hc : BE X W S G δ c (fun z => z = k)) (ha : k = true → DE X W S G δ a (fun z => z = x)) (hb : k = false → DE X W S G δ b (fun z => z = y)) : DE X W S G δ (.IfExp c a b pos) (fun z => z = if k = true then x else y) :=
  de_if hc (fun e => (ha e.symm).imp fun z h => by rw [h, if_pos e.symm]) (fun e => (hb e.symm).imp fun z h => by rw [h, if_neg (by rw [← e]; exact Bool.false_ne_true)])
theorem de_ifI {k : Bool} {i j : Int} (hc : BE X W S G δ c (fun z => z = k)) (ha : k = true → DE X W S G δ a (fun z => z = .int i)) (hb : k = false → DE X W S G δ b (fun z => z = .int j)) : DE X W S G δ (.IfExp c a b pos) (fun z => z = .int (if k = true then i else j)) :=
  de_if hc (fun e => (ha e.symm).imp fun z h => by rw [h, if_pos e.symm]) (fun e => (hb e.symm).imp fun z h => by rw [h, if_neg (by rw [← e]; exact Bool.false_ne_true)])
theorem be_andE {k m : Bool} (ha : BE X W S G δ a (fun z => z = k)) (hb : k = true → BE X W S G δ b (fun z => z = m)) : BE X W S G δ (.BoolOp .And [a, b] pos) (fun z => z = (k && m)) :=
  be_bw (bw_and (P2 := fun z => z = m) ha (fun e => bw_and1 (hb e.symm)) (fun e => by rw [← e]; rfl) (fun c e1 e2 => by rw [← e1, e2]; rfl))
theorem be_orE {k m : Bool} (ha : BE X W S G δ a (fun z => z = k)) (hb : k = false → BE X W S G δ b (fun z => z = m)) : BE X W S G δ (.BoolOp .Or [a, b] pos) (fun z => z = (k || m)) :=
  be_bw (bw_or (P2 := fun z => z = m) ha (fun e => bw_or1 (hb e.symm)) (fun e => by rw [← e]; rfl) (fun c e1 e2 => by rw [← e1, e2]; rfl))
theorem be_and3 {k m n : Bool} (ha : BE X W S G δ a (fun z => z = k)) (hb : k = true → BE X W S G δ b (fun z => z = m)) (hc : k = true → m = true → BE X W S G δ c (fun z => z = n)) : BE X W S G δ (.BoolOp .And [a, b, c] pos) (fun z => z = (k && (m && n))) :=
  be_bw (bw_and (P2 := fun z => z = (m && n)) ha (fun e => bw_and (P2 := fun z => z = n) (hb e.symm) (fun e2 => bw_and1 (hc e.symm e2.symm)) (fun e => by rw [← e]; rfl) (fun c e1 e2 => by rw [← e1, e2]; rfl)) (fun e => by rw [← e]; rfl) (fun c e1 e2 => by rw [← e1, e2]; rfl))
theorem be_notE {k : Bool} (h : BE X W S G δ a (fun z => z = k)) : BE X W S G δ (.UnaryOp .Not a pos) (fun z => z = !k) := be_not (h.imp fun b e => by rw [e])
theorem be_valE {k : Bool} (h : DE X W S G δ e (fun d => d = .bool k)) (he : ∀ whole, isTrue e X.env whole = (do let v ← whole; standAt e.pos; holding [v] (truthy v)) := by intro _; rfl) : BE X W S G δ e (fun z => z = k) := be_val (h.imp fun d e => ⟨k, e, rfl⟩) he
/-- a tuple of the top -/
theorem de_const {xn : Str} {p : Addr} {vs : List He.Dv} {ds : List PyData} (hm : X.mg xn = some (.ref p)) (hp : p = He.ga X.K xn) (ht : He.tupB X.K xn vs = true) (hv : ∀ S H, Rps X.K S H ds (vs.map (He.Dv.v X.K))) (hg : Gl X xn := by rfl) (hdb : (xn == ("__debug__" : Str)) = false := by decide) : DE X W S G δ (.Name xn pos) (fun z => z = .tuple ds) := fun σ H C Q q => by
  subst hp
  refine EE.of (pe_glob (v := .ref (He.ga X.K xn)) hg hm rfl hdb) (q _ H _ C .refl rfl ?_)
  refine ⟨_, vs.map (He.Dv.v X.K), rfl, .inr ?_, hv S H⟩
  rcases He.tupB_ok ht (fun _ => none) with (h | ⟨o, h⟩) | h
  · cases h
  · cases h
  · exact h
end
end Dl
/-! text A1 -/
set_option Elab.async false
set_option linter.all false
set_option maxRecDepth 100000
set_option maxHeartbeats 1000000
namespace K53
open PySem PySem.Spec PyProof.Rows L2 Dl
local macro_rules | `(tactic| walk_at "fl") => `(tactic| first | rfl | assumption | (simp only [*]; done) | decide)
/-! ### ops that are weighed -/
/-- the word of a bin, a cmp -/
abbrev isIn (x : PyData) (l : List PyData) : Bool := inV (fV x) (l.map fV)
def opw (kind : Str) (word tag : PyData) : Int :=
  (if decide (fV (.str kind) = fV (.str "bin")) = true then (if isIn word [.str "udiv", .str "sdiv", .str "urem", .str "srem"] = true then 9 else if decide (fV word = fV (.str "mul")) = true then 8 else if decide (fV word = fV (.str "sub")) = true then 4 else 3) else if decide (fV (.str kind) = fV (.str "at")) = true then 1 else 2) +
    (if (isIn (.str kind) [.str "bin", .str "cmp"] && (isIn word [.str "add", .str "mul", .str "and", .str "or", .str "xor", .str "eq", .str "ne"] && decide (fV tag = fV (.str "n")))) = true then 1 else 0)
theorem not_t {b : Bool} (h : true = !b) : b = false := by cases b <;> first | rfl | cases h
theorem not_f {b : Bool} (h : false = !b) : b = true := by cases b <;> first | rfl | cases h
section
variable {P : Program} {w : World} {K : PySem.W.Frag} {mg : Str → Option Value} {base : Heap}
theorem ok_power (T : Txt K mg) : DefOk P w K mg base 1 "_law_power" ["_law_many"] (spP K (fun (n : Nat) ds => ds = [.int (n : Int)] ∧ n ≤ 64) (fun n d => d = .int ((2 : Int) ^ n))) := by
  refine def_P T.F_L_power T.g_L_power b_L_power sc_L_power (by rintro n _ ⟨rfl, _⟩; rfl) ?_
  rintro X ⟨cdv, A, outer, s, H0, E, hr, rfl⟩ n S0 H ds σ Q C ⟨rfl, hn⟩ hQ
  refine ss_ret (v' := Q) C (de_shl (i := 1) (j := (n : Int)) de_int (de_var 0 rfl) ⟨by omega, by omega, by decide⟩) fun v H' d C' st pd rv => hQ v H' d C'.fr ?_ rv
  rw [pd, Int.one_mul]
  rfl
/-- the weighed op of a kind: its word and the sign of its first arg -/
def WOp (x : Str × PyData × PyData) (d : PyData) : Prop := ∃ v info z as, d = .tuple [v, .str x.1, .tuple (x.2.1 :: info), .tuple (.tuple [x.2.2, z] :: as)] ∧ flat x.2.1 = true ∧ flat x.2.2 = true ∧ (∀ y, sc x.2.2 (.str y) = true) ∧ (∀ y, sc x.2.1 (.str y) = true)
theorem ok_lawOpWeight (T : Txt K mg) : DefOk P w K mg base 1 "_law_op_weight" ["_law_op"] (spP K (fun x ds => ∃ d, ds = [d] ∧ WOp x d) (fun x d => d = .int (opw x.1 x.2.1 x.2.2))) := by
  refine def_P T.F_L_op_weight T.g_L_op_weight b_L_op_weight sc_L_op_weight (by rintro n _ ⟨d, rfl, _⟩; rfl) ?_
  rintro X ⟨cdv, A, outer, s, H0, E, hr, rfl⟩ ⟨kind, word, tag⟩ S0 H ds σ Q C ⟨d, rfl, v, info, z, as, rfl, fw, ft, st, sw⟩ hQ
  dsimp only at C fw ft st sw hQ
  refine ss_par 1 2 (Pa := fun y => y = word) (Pb := fun y => y = .int 0) C (de_ix (de_ix (de_var 0 rfl) de_int rfl) de_int rfl) (fun _ _ => de_int) (fun da db σ' H' C1 _ e1 e2 => ?_) rfl sc_L_op_weight.nd (by decide) (ps_par rfl sc_L_op_weight.nd rfl rfl (by decide) rfl rfl (pa_cons pee (pa_cons pee pa_nil)) (by rfl))
  subst e1 e2
  have fin : ∀ (m : Int) σ H', Dl.Ctx K ⟨[], H, []⟩ S0 [] [.d (.tuple [v, .str kind, .tuple (da :: info), .tuple (.tuple [tag, z] :: as)]), .d da, .d (.int m)] σ H' → m = (if (isIn (.str kind) [.str "bin", .str "cmp"] && (isIn da [.str "add", .str "mul", .str "and", .str "or", .str "xor", .str "eq", .str "ne"] && decide (fV tag = fV (.str "n")))) = true then 1 else 0) →
      SS (cxOf CX0 P w K mg base ["_law_op", "_law_word", "_law_more"] "_law_op_weight" (defScope s_L_op_weight) (He.ga K "_law_op_weight") cdv A outer s H0 E).nox ((defBody s_L_op_weight).drop 2) { nx := fun _ H' => Q .non H', rt := Q } σ H' := by
    intro m σ H' C2 hm
    refine ss_if C2 (be_ne (de_ix (de_var 0 rfl) de_int rfl) de_str (by walk_at "fl")) (fun H3 C3 _ e => ?_) (fun H3 C3 _ e => ?_)
    · refine ss_ret (v' := Q) C3 (de_add (de_ifI (be_eq (de_ix (de_var 0 rfl) de_int rfl) de_str (by walk_at "fl")) (fun _ => de_int) (fun _ => de_int)) (de_var 2 rfl)) fun v H' d C' st pd rv => hQ v H' d C'.fr ?_ rv
      rw [pd, hm]
      unfold opw
      simp only [not_t e, Bool.false_eq_true, if_false]
    · refine ss_nil ?_
      refine ss_ret (v' := Q) C3 (de_add (de_ifI (be_in rfl (de_var 1 rfl) (de_lstE (da_consE de_str (da_consE de_str (da_consE de_str (da_consE de_str da_nilE))))) (by walk_at "fl") (by walk_at "fl")) (fun _ => de_int) (fun _ => (de_ifI (be_eq (de_var 1 rfl) de_str (by walk_at "fl")) (fun _ => de_int) (fun _ => (de_ifI (be_eq (de_var 1 rfl) de_str (by walk_at "fl")) (fun _ => de_int) (fun _ => de_int)))))) (de_var 2 rfl)) fun v H' d C' st pd rv => hQ v H' d C'.fr ?_ rv
      rw [pd, hm]
      unfold opw
      simp only [not_f e, if_true]
  refine ss_if C1 (be_and3 (be_in rfl (de_ix (de_var 0 rfl) de_int rfl) (de_lstE (da_consE de_str (da_consE de_str da_nilE))) (by walk_at "fl") (by walk_at "fl")) (fun _ => (be_in rfl (de_var 1 rfl) (de_lstE (da_consE de_str (da_consE de_str (da_consE de_str (da_consE de_str (da_consE de_str (da_consE de_str (da_consE de_str da_nilE)))))))) (by walk_at "fl") (by walk_at "fl"))) (fun _ _ => (be_eq (de_ix (de_ix (de_ix (de_var 0 rfl) de_int rfl) de_int rfl) de_int rfl) de_str (by walk_at "fl")))) (fun H2 C2 _ e => ?_) (fun H2 C2 _ e => ?_)
  · refine ss_set 2 C2 de_int (fun d σ' H3 C3 _ e3 => ?_) sc_L_op_weight.nd
    subst e3
    refine ss_nil (fin 1 σ' H3 C3 ?_)
    rw [if_pos e.symm]
  · refine ss_nil (fin 0 _ H2 C2 ?_)
    rw [if_neg (fun z => by rw [z] at e; cases e)]
end
end K53
/-! text A2 -/
set_option Elab.async false
set_option linter.all false
set_option maxRecDepth 100000
set_option maxHeartbeats 1000000
namespace K53
open PySem PySem.Spec PyProof.Rows L2 Dl
section
variable {P : Program} {w : World} {K : PySem.W.Frag} {mg : Str → Option Value} {base : Heap}
theorem dpInts {K : PySem.W.Frag} {H : Hp} : ∀ ns : List Int, DpAll K H (ns.map V.int) (ns.map PyData.int)
  | [] => .nil
  | n :: ns => .cons (.int n) (dpInts ns)
theorem canInts : ∀ ns : List Int, PyData.canLayAll0 (ns.map PyData.int) = true
  | [] => by simp [PyData.canLayAll0]
  | n :: ns => by
    rw [List.map_cons]
    simp only [PyData.canLayAll0, PyData.canLay0, Bool.true_and]
    exact canInts ns
theorem eqv_nil : ∀ ns : List PyData, PyData.eqv (.list ns) (.list []) = ns.isEmpty
  | [] => by simp [PyData.eqv, PyData.eqvAll]
  | n :: ns => by simp [PyData.eqv, PyData.eqvAll]
theorem depth_nil : (PyData.list []).depth ≤ 64 := by simp [PyData.depth, PyData.depthAll]
theorem ok_any (T : Txt K mg) : DefOk P w K mg base 1 "_law_any" ["_law_deal", "_law_bound"] (spM K (fun (n : Int) ds => ds = [.int n] ∧ 0 < n ∧ n ≤ 2 ^ 64) (fun n d => ∃ k : Int, 0 ≤ k ∧ k < n ∧ d = .int k)) := by
  refine def_M T.F_L_any T.g_L_any b_L_any sc_L_any (by rintro n _ ⟨rfl, _⟩; rfl) ?_
  rintro X ⟨cdv, A, outer, s, H0, E, hr, rfl⟩ n S0 H dl cl ds σ Q C ⟨rfl, hn, hn2⟩ hQ
  obtain ⟨_, σ1, rfl, e0, _, σ2, rfl, e1, o3, σ3, rfl, _, e3⟩ := C.env
  have e0 : _ = _ := e0
  obtain ⟨v1, e1, r1⟩ := e1
  have r1 : v1 = .int n := r1
  have e3 : σ3 = [] := e3
  subst e0 e1 r1 e3
  have hD : Deal H dl cl := by
    rcases C.deal with z | ⟨_, _, z, h⟩
    · cases z
    · cases z; exact h
  obtain ⟨hne, cs, b, hd, hc, hl, hb0, hb1⟩ := hD
  have hu : (A.deeper (envOfC "_law_any" (defScope s_L_any) s.heap.objs.size (He.ga K "_law_any") cdv)).units + 64 < cLine := hr.units
  -- the cells' list, its last
  refine SS.of (pss_cons (ps_while PassesOwn.never (PW.pt (pw_and (pt_cmpR (op_neR hu) (pe_ix ix_list (pv 0) pe_int (fun _ _ => rfl)) (pe_lst pa_nil) (nomark _)) (pw_and1 (pt_cmpR op_eq (pe_ix ix_list (pe_ix ix_list (pv 0) pe_int (fun _ _ => rfl)) (pe_un un_neg pe_int) (fun _ _ => rfl)) pe_int (nomark _)))))
      (pss_one (ps_expr (pe_bm0 PySem.F.plainAttrs_list PySem.F.slot_list_pop PySem.F.type_list_pop mt_pop (pe_ix ix_list (pv 0) pe_int (fun _ _ => rfl))))))
    (pss_cons (ps_if (pt_cmpR (op_neR hu) (pe_ix ix_list (pv 0) pe_int (fun _ _ => rfl)) (pe_lst pa_nil) (nomark _))
        (pss_cons (ps_set (i := 2) sc_L_any.nd rfl (.inl rfl) (pe_callTy call_int1 (by rfl) T.n_int (by decide +kernel) (pa_cons (pe_bm0 PySem.F.plainAttrs_list PySem.F.slot_list_pop PySem.F.type_list_pop mt_pop (pe_ix ix_list (pv 0) pe_int (fun _ _ => rfl))) pa_nil)))
        (pss_cons (ps_expr (pe_bm PySem.F.plainAttrs_list PySem.F.slot_list_append PySem.F.type_list_append mt_append (pe_ix ix_list (pv 0) pe_int (fun _ _ => rfl)) (pa_cons (pe_op op_fdivW (pv 2) (pv 1)) pa_nil)))
        (pss_one (ps_ret (pe_op op_modN (pv 2) (pv 1)))))) pss_nil)
    (pss_cons (ps_asg (pe_op op_modN (pe_callTy call_int1 (by rfl) T.n_int (by decide +kernel) (pa_cons (pe_op op_add (pe_op op_mul (pe_ix ix_list (pv 0) pe_int (fun _ _ => rfl)) pe_int) pe_int) pa_nil)) pe_int) (pg_sub (pv 0) pe_int set_list))
    (pss_one (ps_ret (pe_op op_modN (pe_callTy call_int1 (by rfl) T.n_int (by decide +kernel) (pa_cons (pe_op op_fdivN (pe_ix ix_list (pv 0) pe_int (fun _ _ => rfl)) pe_int) pa_nil)) (pv 1))))))) ?_
  -- the words
  have isN : ∀ {H' : Hp} {ds : List Int}, H' cl = some (.lst (ds.map V.int)) → ∀ {p : Addr}, H' p = none → ∀ {Q : VK}, Q (.bl (!ds.isEmpty)) (upd H' p (.lst [])) → rEqR K true (.ref cl) (.ref p) (upd H' p (.lst [])) Q := fun {H' ds} hc {p} hp {Q} q => by
    refine ⟨.list (ds.map .int), .list [], .lst (.inl (.inl (by rw [upd_ne (ne_of_none hc hp)]; exact hc))) (dpInts ds), .lst (.inl (.inl upd_same)) .nil, canInts ds, by simp [PyData.canLay0, PyData.canLayAll0], Nat.le_trans (Nat.min_le_right _ _) depth_nil, ?_⟩
    show Q (.bl (!PyData.eqv (.list (ds.map .int)) (.list []))) _
    rw [eqv_nil]
    have e : (ds.map PyData.int).isEmpty = ds.isEmpty := by cases ds <;> rfl
    rw [e]
    exact q
  refine ⟨fun m σ H' => σ = [some (.ref dl), some (.int n), o3] ∧ Stp [dl, cl] H H' ∧ ∃ ds : List Int, H' dl = some (.lst [.ref cl, .int b]) ∧ H' cl = some (.lst (ds.map V.int)) ∧ ds.length = m ∧ ds.length ≤ 48, ⟨_, rfl, .refl, cs, hd, hc, rfl, hl⟩, ?_⟩
  rintro m σ H' ⟨rfl, st, ds, hd', hc', hm, hl'⟩
  have rest : ∀ (H2 : Hp) (ds : List Int), Stp [dl, cl] H H2 → H2 dl = some (.lst [.ref cl, .int b]) → H2 cl = some (.lst (ds.map V.int)) → ds.length ≤ 48 → tSeq (tIfS (tTest (tOp (rEqR K true) (tOp (rIxL K) (tVar 0) (tC (.int 0))) (tLst tNil)))
      (tSeq (tAsg (tCB (fun xs H Q => (∃ i, xs = [.int i] ∧ Q (.int i) H) ∨ ∃ k, xs = [.bl k] ∧ Q (.int (if k then 1 else 0)) H) (tCons (tBM0 K "list" rPop (tOp (rIxL K) (tVar 0) (tC (.int 0)))) tNil)) (gName 2))
        (tSeq (tDrop (tBM K "list" rAppend (tOp (rIxL K) (tVar 0) (tC (.int 0))) (tCons (tOp (rI CDivW fun i j => .int (i / j)) (tVar 2) (tVar 1)) tNil))) (tRet (tOp (rI (fun _ j => j ≠ 0) fun i j => .int (i.fmod j)) (tVar 2) (tVar 1))))) tNext)
      (tSeq (tAsg (tOp (rI (fun _ j => j ≠ 0) fun i j => .int (i.fmod j)) (tCB (fun xs H Q => (∃ i, xs = [.int i] ∧ Q (.int i) H) ∨ ∃ k, xs = [.bl k] ∧ Q (.int (if k then 1 else 0)) H) (tCons (tOp (rI0 fun i j => .int (i + j)) (tOp (rI CMul fun i j => .int (i * j)) (tOp (rIxL K) (tVar 0) (tC (.int 1))) (tC (.int 40693))) (tC (.int 71))) tNil)) (tC (.int 2147483647))) (gSub (tVar 0) (tC (.int 1)) rSetL))
        (tRet (tOp (rI (fun _ j => j ≠ 0) fun i j => .int (i.fmod j)) (tCB (fun xs H Q => (∃ i, xs = [.int i] ∧ Q (.int i) H) ∨ ∃ k, xs = [.bl k] ∧ Q (.int (if k then 1 else 0)) H) (tCons (tOp (rI CDivN fun i j => .int (i.fdiv j)) (tOp (rIxL K) (tVar 0) (tC (.int 1))) (tC (.int 64))) tNil)) (tVar 1))))
      { nx := fun _ H' => Q .non H', rt := Q } [some (.ref dl), some (.int n), o3] H2 := by
    intro H2 ds st hd hc hl
    refine ⟨.ref dl, rfl, dl, _, 0, _, rfl, rfl, .inl (.inl hd), rfl, Nat.zero_le _, fun p hp => isN hc hp ⟨_, rfl, ?_⟩⟩
    have pd : dl ≠ p := ne_of_none hd hp
    have pc : cl ≠ p := ne_of_none hc hp
    have hd3 : upd H2 p (.lst []) dl = some (.lst [.ref cl, .int b]) := by rw [upd_ne pd]; exact hd
    have hc3 : upd H2 p (.lst []) cl = some (.lst (ds.map V.int)) := by rw [upd_ne pc]; exact hc
    have st3 : Stp [dl, cl] H (upd H2 p (.lst [])) := st.trans (Stp.new hp)
    generalize upd H2 p (.lst []) = H3 at hd3 hc3 st3 ⊢
    cases ds with
    | nil =>
      refine iteF ?_
      -- the blend
      have m0 : 0 ≤ (b * 40693 + 71).fmod 2147483647 := Int.fmod_nonneg_of_pos _ (by decide)
      have m1 : (b * 40693 + 71).fmod 2147483647 < 2147483647 := Int.fmod_lt_of_pos _ (by decide)
      obtain ⟨b2, eb⟩ : ∃ b2, (b * 40693 + 71).fmod 2147483647 = b2 := ⟨_, rfl⟩
      rw [eb] at m0 m1
      refine ⟨.ref dl, rfl, dl, _, 1, _, rfl, rfl, .inl (.inl hd3), rfl, b, 40693, rfl, rfl, .inr ⟨by decide, by decide⟩, _, _, rfl, rfl, .inl ⟨_, rfl, _, _, rfl, rfl, (show (2147483647 : Int) ≠ 0 by decide), ?_⟩⟩
      show gSub (tVar 0) (tC (.int 1)) rSetL (.int ((b * 40693 + 71).fmod 2147483647)) _ _ _
      rw [eb]
      have hd4 : upd H3 dl (.lst [.ref cl, .int b2]) dl = some (.lst [.ref cl, .int b2]) := upd_same
      have hc4 : upd H3 dl (.lst [.ref cl, .int b2]) cl = some (.lst (([] : List Int).map V.int)) := by rw [upd_ne hne.symm]; exact hc3
      have st4 : Stp [dl, cl] H (upd H3 dl (.lst [.ref cl, .int b2])) := st3.trans (Stp.wr (by simp))
      refine ⟨.ref dl, rfl, dl, _, 1, 1, rfl, rfl, hd3, rfl, ?_⟩
      have es : ([V.ref cl, V.int b] : List V).set 1 (.int b2) = [.ref cl, .int b2] := rfl
      rw [es]
      exact ⟨.ref dl, rfl, dl, _, 1, .int b2, rfl, rfl, .inl (.inl hd4), rfl, b2, 64, rfl, rfl, ⟨by decide, by decide⟩, .inl ⟨_, rfl, .int n, rfl, _, _, rfl, rfl, (show n ≠ 0 by omega), hQ _ _ (.int _) st4 ⟨hne, [], b2, hd4, hc4, by simp, m0, m1⟩ ⟨_, Int.fmod_nonneg_of_pos _ hn, Int.fmod_lt_of_pos _ hn, rfl⟩ rfl⟩⟩
    | cons c cr =>
      refine iteT ?_
      have hlast : ((c :: cr).map V.int)[((c :: cr).map V.int).length - 1]? = some (.int ((c :: cr).getLast (by simp))) := by
        rw [List.length_map, List.getElem?_map, List.getLast_eq_getElem, List.getElem?_eq_getElem]
        rfl
      refine ⟨.ref dl, rfl, dl, _, 0, _, rfl, rfl, .inl (.inl hd3), rfl, .inl ⟨rfl, _, .inl (.inl hc3)⟩, cl, _, _, rfl, rfl, hc3, hlast, .inl ⟨_, rfl, ?_⟩⟩
      generalize (c :: cr).getLast (by simp) = z
      have ed : ((c :: cr).map V.int).dropLast = ((c :: cr).dropLast).map V.int := by rw [List.map_dropLast]
      rw [ed]
      have hz : ((c :: cr).dropLast).length ≤ 47 := by rw [List.length_dropLast]; omega
      generalize (c :: cr).dropLast = ds at hz ⊢
      have hd4 : upd H3 cl (.lst (ds.map V.int)) dl = some (.lst [.ref cl, .int b]) := by rw [upd_ne hne]; exact hd3
      have hc4 : upd H3 cl (.lst (ds.map V.int)) cl = some (.lst (ds.map V.int)) := upd_same
      have st4 : Stp [dl, cl] H (upd H3 cl (.lst (ds.map V.int))) := st3.trans (Stp.wr (by simp))
      generalize upd H3 cl (.lst (ds.map V.int)) = H4 at hd4 hc4 st4 ⊢
      refine ⟨.ref dl, rfl, dl, _, 0, _, rfl, rfl, .inl (.inl hd4), rfl, .inl ⟨rfl, _, .inl (.inl hc4)⟩, .int z, rfl, .int n, rfl, z, n, rfl, rfl, ⟨hn, ?_⟩, cl, _, _, rfl, rfl, hc4, small1000 (by rw [List.length_map]; omega), ?_⟩
      · have h1 : n.natAbs < 2 ^ 65 := by omega
        have : n.natAbs.log2 < 65 := (Nat.log2_lt (by omega)).mpr h1
        omega
      · have e5 : ds.map V.int ++ [V.int (z / n)] = (ds ++ [z / n]).map V.int := by simp
        rw [e5]
        have hd5 : upd H4 cl (.lst ((ds ++ [z / n]).map V.int)) dl = some (.lst [.ref cl, .int b]) := by rw [upd_ne hne]; exact hd4
        have st5 : Stp [dl, cl] H (upd H4 cl (.lst ((ds ++ [z / n]).map V.int))) := st4.trans (Stp.wr (by simp))
        exact ⟨.int z, rfl, .int n, rfl, z, n, rfl, rfl, by omega, hQ _ _ (.int _) st5 ⟨hne, _, b, hd5, upd_same, by simp; omega, hb0, hb1⟩ ⟨_, Int.fmod_nonneg_of_pos _ hn, Int.fmod_lt_of_pos _ hn, rfl⟩ rfl⟩
  -- the loop's test
  refine ⟨.ref dl, rfl, dl, _, 0, _, rfl, rfl, .inl (.inl hd'), rfl, Nat.zero_le _, fun p hp => isN hc' hp ⟨_, rfl, ?_⟩⟩
  have pd : dl ≠ p := ne_of_none hd' hp
  have pc : cl ≠ p := ne_of_none hc' hp
  have hd3 : upd H' p (.lst []) dl = some (.lst [.ref cl, .int b]) := by rw [upd_ne pd]; exact hd'
  have hc3 : upd H' p (.lst []) cl = some (.lst (ds.map V.int)) := by rw [upd_ne pc]; exact hc'
  have st3 : Stp [dl, cl] H (upd H' p (.lst [])) := st.trans (Stp.new hp)
  generalize upd H' p (.lst []) = H3 at hd3 hc3 st3 ⊢
  cases ds with
  | nil => exact iteF (iteF (rest H3 [] st3 hd3 hc3 hl'))
  | cons c cr =>
    refine iteT ?_
    have hlast : ((c :: cr).map V.int)[((c :: cr).map V.int).length - 1]? = some (.int ((c :: cr).getLast (by simp))) := by
      rw [List.length_map, List.getElem?_map, List.getLast_eq_getElem, List.getElem?_eq_getElem]
      rfl
    have hat : atI ((c :: cr).map V.int) (-1) = some (.int ((c :: cr).getLast (by simp))) := by
      have hz : ((c :: cr).map V.int) = ((c :: cr).dropLast.map V.int) ++ [.int ((c :: cr).getLast (List.cons_ne_nil _ _))] := by
        rw [← List.map_singleton, ← List.map_append, List.dropLast_concat_getLast]
      rw [hz]
      exact atI_last _ _
    refine ⟨.ref dl, rfl, dl, _, 0, _, rfl, rfl, .inl (.inl hd3), rfl, 1, rfl, cl, _, -1, _, rfl, rfl, .inl (.inl hc3), hat, rfl, _, rfl, ?_⟩
    cases q : decide (V.int ((c :: cr).getLast (by simp)) = V.int 0) with
    | false => exact iteF (rest H3 _ st3 hd3 hc3 hl')
    | true =>
      refine iteT ⟨fun σ' H4 => ∃ m', m' < m ∧ σ' = [some (.ref dl), some (.int n), o3] ∧ Stp [dl, cl] H H4 ∧ ∃ ds : List Int, H4 dl = some (.lst [.ref cl, .int b]) ∧ H4 cl = some (.lst (ds.map V.int)) ∧ ds.length = m' ∧ ds.length ≤ 48, fun σ' H4 h => h, ?_⟩
      refine ⟨.ref dl, rfl, dl, _, 0, _, rfl, rfl, .inl (.inl hd3), rfl, .inl ⟨rfl, _, .inl (.inl hc3)⟩, cl, _, _, rfl, rfl, hc3, hlast, ?_⟩
      have ed : ((c :: cr).map V.int).dropLast = ((c :: cr).dropLast).map V.int := by rw [List.map_dropLast]
      rw [ed]
      have hz : ((c :: cr).dropLast).length + 1 = m := by rw [List.length_dropLast, ← hm]; simp
      exact ⟨((c :: cr).dropLast).length, by omega, rfl, st3.trans (Stp.wr (by simp)), _, by rw [upd_ne hne]; exact hd3, upd_same, rfl, by omega⟩
end
end K53
/-! text D6 -/
set_option Elab.async false
set_option linter.all false
set_option maxRecDepth 100000
set_option maxHeartbeats 1000000
namespace Dl
open PySem PySem.Spec PyProof.Rows L2
/-- what an expression gives, read at this moment (a list that changes, too) -/
def DR (X : Cx) (W : Wd) (S : List Addr) (G : List (Addr × MO)) (δ : List Sl) (e : Expr) (P : PyData → Prop) : Prop := ∀ (σ : L2.St) (H : Hp), Ctx X.K W S G δ σ H → ∀ Q : VK, (∀ v H' d, Ctx X.K W S G δ σ H' → Stp W.M H H' → P d → Rp X.K [] H' d v → Q v H') → EE X e σ H Q
section
variable {X : Cx} {W : Wd} {S : List Addr} {G : List (Addr × MO)} {δ δ' δ'' : List Sl} {a b c e tg : Expr} {es : List Expr} {P Pa Pb : PyData → Prop} {pos : Pos} {σ : L2.St} {H : Hp} {D : Ends} {r : List Stmt} {d x y : PyData} {ds l : List PyData} {js ks : List Nat}
theorem Rp.nil {K : PySem.W.Frag} {v : V} (h : Rp K S H d v) : Rp K [] H d v := h.mv (Mv.sub fun x hx => by cases hx)
theorem DE.dr (h : DE X W S G δ e P) : DR X W S G δ e P := fun σ H C Q q => h σ H C Q fun v H' d C' st p r => q v H' d C' st p r.nil
theorem ev_v (i : Nat) {v : V} {xn : Str} {Q : VK} (C : Ctx X.K W S G δ σ H) (hd : δ[i]? = some (.v v)) (q : Q v H) (hN : X.N[i]? = some xn := by rfl) (hv : Vis X.env.scope xn := by first | exact Or.inl rfl | exact Or.inr (Or.inl rfl) | exact Or.inr (Or.inr rfl)) (h1 : (xn == ("__debug__" : Str)) = false := by decide)
    (h2 : (xn == ("__classdict__" : Str)) = false := by decide) : EE X (.Name xn pos) σ H Q := by
  obtain ⟨o, e1, e2⟩ := C.env.get hd
  have e2 : o = some v := e2
  exact EE.of (pe_var hN hv h1 h2) ⟨v, by rw [e1, e2], q⟩
theorem dr_m (i : Nat) {p : Addr} {xn : Str} (hd : δ[i]? = some (.v (.ref p))) (hG : (p, .lst ds) ∈ G) (hN : X.N[i]? = some xn := by rfl) (hv : Vis X.env.scope xn := by first | exact Or.inl rfl | exact Or.inr (Or.inl rfl) | exact Or.inr (Or.inr rfl)) (h1 : (xn == ("__debug__" : Str)) = false := by decide)
    (h2 : (xn == ("__classdict__" : Str)) = false := by decide) : DR X W S G δ (.Name xn pos) (fun z => z = .list ds) := fun σ H C Q q => by
  obtain ⟨⟨xs, hl, rs⟩, _⟩ := C.objs _ hG
  exact ev_v i C hd (q _ H _ C .refl rfl ⟨p, xs, rfl, ⟨(fun z => by cases z), hl⟩, rs.mv (Mv.sub fun x hx => by cases hx)⟩) hN hv h1 h2
/-! len -/
theorem de_len {p : Pos} (hm : X.mg "len" = none) (ha : DR X W S G δ e (fun z => z = y)) (hy : seqOf y = some ds) (hg : Gl X "len" := by rfl) (na : starEach [e] X.env = (false, eval e X.env) :: starEach [] X.env := by exact star_cons rfl) : DE X W S G δ (.Call (.Name "len" p) [e] [] pos) (fun z => z = .int ds.length) := fun σ H C Q q =>
  EE.of (pe_callB call_len_seq hg hm PySem.boot_len (pa_cons pee pa_nil na) (he := na)) (ha σ H C _ fun v H1 d C1 s1 e1 rv => by
    subst e1
    cases d with
    | tuple es' =>
      cases hy
      obtain ⟨p, xs, rfl, ht, rs⟩ := rv
      exact ⟨p, xs, rfl, .inr ht.sq, q _ H1 (.int xs.length) C1 s1 (by rw [← rs.len]) rfl⟩
    | list es' =>
      cases hy
      obtain ⟨p, xs, rfl, ht, rs⟩ := rv
      exact ⟨p, xs, rfl, .inl (.inl (.inl ht.2)), q _ H1 (.int xs.length) C1 s1 (by rw [← rs.len]) rfl⟩
    | _ => cases hy)
/-! in -/
theorem be_inR {neg : Bool} {op : CmpOp} (ho : OpR X (compareOp op) (rIn X.K neg)) (hy : seqOf y = some ds) (ha : DE X W S G δ a (fun z => z = x)) (hb : DR X W S G δ b (fun z => z = y)) (hx : flat x = true) (hs : ds.all flat = true) (hm : behindInMarks op b = false) : BE X W S G δ (.Compare a [op] [b] pos) (fun k => k = if neg then !inV (fV x) (ds.map fV) else inV (fV x) (ds.map fV)) := fun σ H C Q q =>
  ET.of (pt_cmpR ho pee pee hm) (ha σ H C _ fun u H1 da C1 s1 pa ra => hb σ H1 C1 _ fun w H2 db C2 s2 pb rb => by
    subst pa pb
    refine rd_in (S := []) (neg := neg) hy hx hs H2 u w (fun a ha => by cases ha) (C1.mv s2 ra).nil rb _ fun v H3 d s3 e1 r3 => ?_
    subst e1
    exact ⟨_, r3, q _ H3 (C2.ext s3) ((s1.trans s2).trans s3.nil) rfl⟩)
theorem be_inM (hy : seqOf y = some ds) (ha : DE X W S G δ a (fun z => z = x)) (hb : DR X W S G δ b (fun z => z = y)) (hx : flat x = true) (hs : ds.all flat = true) (hm : behindInMarks .In b = false := by rfl) : BE X W S G δ (.Compare a [.In] [b] pos) (fun k => k = inV (fV x) (ds.map fV)) := be_inR op_in_seq hy ha hb hx hs hm
theorem be_notinM (hy : seqOf y = some ds) (ha : DE X W S G δ a (fun z => z = x)) (hb : DR X W S G δ b (fun z => z = y)) (hx : flat x = true) (hs : ds.all flat = true) (hm : behindInMarks .NotIn b = false := by rfl) : BE X W S G δ (.Compare a [.NotIn] [b] pos) (fun k => k = !inV (fV x) (ds.map fV)) := be_inR op_notIn_seq hy ha hb hx hs hm
/-! == [] -/
theorem eqv_nilD : ∀ ns : List PyData, PyData.eqv (.list ns) (.list []) = ns.isEmpty
  | [] => by simp [PyData.eqv, PyData.eqvAll]
  | n :: ns => by simp [PyData.eqv, PyData.eqvAll]
theorem depth_nilD : (PyData.list []).depth ≤ 64 := by simp [PyData.depth, PyData.depthAll]
theorem be_nil {neg : Bool} {op : CmpOp} {p : Pos} (ho : OpR X (compareOp op) (rEqR X.K neg)) (hm : behindInMarks op (.List [] p) = false) (ha : DR X W S G δ a (fun z => z = .list ds)) (hc : PyData.canLayAll0 ds = true) : BE X W S G δ (.Compare a [op] [.List [] p] pos) (fun k => k = if neg then !ds.isEmpty else ds.isEmpty) := fun σ H C Q q =>
  ET.of (pt_cmpR ho pee (pe_lst pa_nil) hm) (ha σ H C _ fun u H1 da C1 s1 pa ra => ⟨Nat.zero_le _, fun l hl => by
    subst pa
    have st : Stp [] H1 (upd H1 l (.lst [])) := Stp.new hl
    refine ⟨.list ds, .list [], (ra.mv (st.mv fun x hx => by cases hx) : Rp X.K [] _ _ _).dp hc, .lst (.inl (.inl upd_same)) .nil, hc, by simp [PyData.canLay0, PyData.canLayAll0], Nat.le_trans (Nat.min_le_right _ _) depth_nilD, _, rfl, ?_⟩
    rw [eqv_nilD]
    exact q _ _ (C1.ext st) (s1.trans st.nil) rfl⟩)
theorem be_isnil {p : Pos} (hu : X.A.units + 64 < cLine) (ha : DR X W S G δ a (fun z => z = .list ds)) (hc : PyData.canLayAll0 ds = true) : BE X W S G δ (.Compare a [.Eq] [.List [] p] pos) (fun k => k = ds.isEmpty) := be_nil (op_eqR hu) (nomark _) ha hc
theorem be_nonil {p : Pos} (hu : X.A.units + 64 < cLine) (ha : DR X W S G δ a (fun z => z = .list ds)) (hc : PyData.canLayAll0 ds = true) : BE X W S G δ (.Compare a [.NotEq] [.List [] p] pos) (fun k => k = !ds.isEmpty) := be_nil (op_neR hu) (nomark _) ha hc
/-! items of a list that changes -/
theorem de_ixM (i : Nat) {p : Addr} {xn : Str} {k : Int} {p1 : Pos} (hd : δ[i]? = some (.v (.ref p))) (hG : (p, .lst ds) ∈ G) (hb : DE X W S G δ b (fun z => z = .int k)) (h : atD ds k = some d) (hs : PlainIx b := by intro _ _; rfl) (hN : X.N[i]? = some xn := by rfl) (hv : Vis X.env.scope xn := by first | exact Or.inl rfl | exact Or.inr (Or.inl rfl) | exact Or.inr (Or.inr rfl)) (h1 : (xn == ("__debug__" : Str)) = false := by decide)
    (h2 : (xn == ("__classdict__" : Str)) = false := by decide) : DE X W S G δ (.Subscript (.Name xn p1) b pos) (fun z => z = d) := fun σ H C Q q =>
  EE.of (pe_ix ix_list pee pee hs) (ev_v i C hd (hb σ H C _ fun v H1 di C1 s1 e1 rv => by
    subst e1
    have rv : v = .int k := rv
    obtain ⟨⟨xs, hl, rs⟩, _⟩ := C1.objs _ hG
    obtain ⟨w, e2, r2⟩ := atI_rps rs h
    exact ⟨p, xs, k, w, rfl, rv, .inl (.inl hl), e2, q w H1 d C1 s1 rfl r2⟩) hN hv h1 h2)
/-! tuple(..), list(..) -/
theorem de_tupleOf {p : Pos} {Ps : List PyData → Prop} (hm : X.mg "tuple" = none) (ha : DE X W S G δ e (fun z => ∃ ds, seqOf z = some ds ∧ Ps ds)) (hg : Gl X "tuple" := by rfl) (na : starEach [e] X.env = (false, eval e X.env) :: starEach [] X.env := by exact star_cons rfl) : DE X W S G δ (.Call (.Name "tuple" p) [e] [] pos) (fun z => ∃ ds, z = .tuple ds ∧ Ps ds) := fun σ H C Q q =>
  EE.of (pe_callTy call_tuple_of hg hm (by decide +kernel) (pa_cons pee pa_nil na) (he := na)) (ha σ H C _ fun v H1 d C1 s1 ⟨ds, hy, ps⟩ rv => by
    cases d with
    | tuple es' =>
      cases hy
      obtain ⟨p, xs, rfl, ht, rs⟩ := rv
      exact ⟨p, xs, rfl, .inr ⟨ht.sq, q _ H1 _ C1 s1 ⟨_, rfl, ps⟩ ⟨p, xs, rfl, ht, rs⟩⟩⟩
    | list es' =>
      cases hy
      obtain ⟨p, xs, rfl, ht, rs⟩ := rv
      refine ⟨p, xs, rfl, .inl ⟨.inl (.inl ht.2), fun l hl => ?_⟩⟩
      have st : Stp [] H1 (upd H1 l (.tup xs)) := Stp.new hl
      exact q _ _ _ (C1.ext st) (s1.trans st.nil) ⟨_, rfl, ps⟩ ⟨l, xs, rfl, .inl ⟨C1.trk.out hl, upd_same⟩, rs.mv (st.mv fun x hx => by cases hx)⟩
    | _ => cases hy)
/-- tuple(xs), xs a list that changes -/
theorem de_tupleM (i : Nat) {q0 : Addr} {xn : Str} {p p1 : Pos} (hm : X.mg "tuple" = none) (hd : δ[i]? = some (.v (.ref q0))) (hG : (q0, .lst ds) ∈ G) (hg : Gl X "tuple" := by rfl) (na : starEach [.Name xn p1] X.env = (false, eval (.Name xn p1) X.env) :: starEach [] X.env := by exact star_cons rfl) (hN : X.N[i]? = some xn := by rfl) (hv : Vis X.env.scope xn := by first | exact Or.inl rfl | exact Or.inr (Or.inl rfl) | exact Or.inr (Or.inr rfl)) (h1 : (xn == ("__debug__" : Str)) = false := by decide)
    (h2 : (xn == ("__classdict__" : Str)) = false := by decide) : DE X W S G δ (.Call (.Name "tuple" p) [.Name xn p1] [] pos) (fun z => z = .tuple ds) := fun σ H C Q q =>
  EE.of (pe_callTy call_tuple_of hg hm (by decide +kernel) (pa_cons pee pa_nil na) (he := na)) (ev_v i C hd (by
    obtain ⟨⟨xs, hl, rs⟩, _⟩ := C.objs _ hG
    refine ⟨q0, xs, rfl, .inl ⟨.inl (.inl hl), fun l hl' => ?_⟩⟩
    have st : Stp [] H (upd H l (.tup xs)) := Stp.new hl'
    exact q _ _ _ (C.ext st) st.nil rfl ⟨l, xs, rfl, .inl ⟨C.trk.out hl', upd_same⟩, rs.mv (st.mv fun x hx => by cases hx)⟩) hN hv h1 h2)
theorem ne_list {p : Pos} (hm : X.mg "list" = none) (ha : DE X W S G δ e (fun z => z = y)) (hy : seqOf y = some ds) (hg : Gl X "list" := by rfl) (na : starEach [e] X.env = (false, eval e X.env) :: starEach [] X.env := by exact star_cons rfl) : NE X W S G δ (.Call (.Name "list" p) [e] [] pos) (fun es => es = ds) :=
  ne_listOf hm ha hy hg (pe_callTy call_list_of hg hm (by decide +kernel) (pa_cons pee pa_nil na) (he := na))
/-! slices from a place on -/
theorem sIx_hi (n : Nat) : HT.sIx n n none = n := HT.sIx_none _ _
theorem cutV_from (xs : List V) (k : Nat) : cutV xs (some (k : Int)) none = xs.drop k := by
  unfold cutV
  rw [HT.sIx_nat, HT.sIx_none]
  by_cases h : k ≤ xs.length
  · rw [Nat.min_eq_left h, List.take_of_length_le (by rw [List.length_drop]; omega)]
  · rw [Nat.min_eq_right (by omega), List.drop_eq_nil_of_le (Nat.le_refl _), List.drop_eq_nil_of_le (by omega), List.take_nil]
theorem ne_from {k : Nat} {p2 : Pos} (ha : DE X W S G δ a (fun z => z = .list ds)) (hb : DE X W S G δ b (fun z => z = .int (k : Int))) : NE X W S G δ (.Subscript a (.Slice (some b) none none p2) pos) (fun es => es = ds.drop k) := fun σ H C Q q =>
  EE.of (pe_slice sl_list pee (po_some pee) po_none) (ha σ H C _ fun u H1 da C1 s1 pa ra => hb σ H1 C1 _ fun w H2 db C2 s2 pb rb => by
    subst pa pb
    have rb : w = .int (k : Int) := rb
    obtain ⟨p, xs, rfl, ht, rs⟩ := C1.mv s2 ra
    refine ⟨k, rb, p, xs, rfl, .inl (.inl ht.2), fun l hl => ?_⟩
    have st : Stp [] H2 (upd H2 l (.lst (cutV xs (some (k : Int)) none))) := Stp.new hl
    refine q l _ _ _ (C2.ext st) ((s1.trans s2).trans st.nil) (C.back C2 (s1.trans s2) hl) upd_same rfl ?_
    rw [cutV_from]
    exact mv_new hl (rs.drop k))
theorem ne_fromM (i : Nat) {k : Nat} {p : Addr} {xn : Str} {p1 p2 : Pos} (hd : δ[i]? = some (.v (.ref p))) (hG : (p, .lst ds) ∈ G) (hb : DE X W S G δ b (fun z => z = .int (k : Int))) (hN : X.N[i]? = some xn := by rfl) (hv : Vis X.env.scope xn := by first | exact Or.inl rfl | exact Or.inr (Or.inl rfl) | exact Or.inr (Or.inr rfl)) (h1 : (xn == ("__debug__" : Str)) = false := by decide)
    (h2 : (xn == ("__classdict__" : Str)) = false := by decide) : NE X W S G δ (.Subscript (.Name xn p1) (.Slice (some b) none none p2) pos) (fun es => es = ds.drop k) := fun σ H C Q q =>
  EE.of (pe_slice sl_list pee (po_some pee) po_none) (ev_v i C hd (hb σ H C _ fun w H2 db C2 s2 pb rb => by
    subst pb
    have rb : w = .int (k : Int) := rb
    obtain ⟨⟨xs, hl0, rs⟩, _⟩ := C2.objs _ hG
    refine ⟨k, rb, p, xs, rfl, .inl (.inl hl0), fun l hl => ?_⟩
    have st : Stp [] H2 (upd H2 l (.lst (cutV xs (some (k : Int)) none))) := Stp.new hl
    refine q l _ _ _ (C2.ext st) (s2.trans st.nil) (C.back C2 s2 hl) upd_same rfl ?_
    rw [cutV_from]
    exact mv_new hl (rs.drop k)) hN hv h1 h2)
/-! tuples: t[k:], t + u -/
theorem de_tupFrom {k : Nat} {p2 : Pos} (ha : DE X W S G δ a (fun z => z = .tuple ds)) (hb : DE X W S G δ b (fun z => z = .int ((k + 1 : Nat) : Int))) (hz : ds ≠ []) : DE X W S G δ (.Subscript a (.Slice (some b) none none p2) pos) (fun z => z = .tuple (ds.drop (k + 1))) := fun σ H C Q q =>
  EE.of (pe_slice sl_tup pee (po_some pee) po_none) (ha σ H C _ fun u H1 da C1 s1 pa ra => hb σ H1 C1 _ fun w H2 db C2 s2 pb rb => by
    subst pa pb
    have rb : w = .int ((k + 1 : Nat) : Int) := rb
    obtain ⟨p, xs, rfl, ht, rs⟩ := C1.mv s2 ra
    have hl := rs.len
    refine ⟨_, rb, p, xs, rfl, ht.sq, ?_, fun l hl => ?_⟩
    · rw [HT.sIx_nat]
      have h0 : 0 < ds.length := List.length_pos_iff.mpr hz
      omega
    · have st : Stp [] H2 (upd H2 l (.tup (cutV xs (some ((k + 1 : Nat) : Int)) none))) := Stp.new hl
      refine q _ _ _ (C2.ext st) ((s1.trans s2).trans st.nil) rfl ⟨l, xs.drop (k + 1), rfl, .inl ⟨C2.trk.out hl, by rw [← cutV_from]; exact upd_same⟩, ?_⟩
      exact (rs.drop (k + 1)).mv (st.mv fun x hx => by cases hx))
theorem de_catT {es' : List PyData} (ha : DE X W S G δ a (fun z => z = .tuple ds)) (hb : DE X W S G δ b (fun z => z = .tuple es')) (hz : ds ≠ []) (hl : ds.length + es'.length ≤ 1000) : DE X W S G δ (.BinOp a .Add b pos) (fun z => z = .tuple (ds ++ es')) := de_op op_catT ha hb fun da db e1 e2 => by
  rw [e1, e2]
  intro H u w t ra rb Q q
  obtain ⟨p, xs, rfl, h1, r1⟩ := ra
  obtain ⟨p2, ys, rfl, h2, r2⟩ := rb
  refine ⟨p, p2, xs, ys, rfl, rfl, h1.sq, h2.sq, fun z => hz ?_, by rw [r1.len, r2.len]; exact Nat.le_of_lt (small1000 hl), fun z => ?_, fun z l hl => ?_⟩
  · have := r1.len
    rw [z] at this
    exact List.length_eq_zero_iff.mp this.symm
  · have := r2.len
    rw [z] at this
    rw [List.length_eq_zero_iff.mp this.symm, List.append_nil] at q
    exact q _ H _ .refl rfl ⟨p, xs, rfl, h1, r1⟩
  · have st : Stp [] H (upd H l (.tup (xs ++ ys))) := Stp.new hl
    exact q _ _ _ st rfl ⟨l, xs ++ ys, rfl, .inl ⟨t.out hl, upd_same⟩, (r1.app r2).mv (st.mv fun x hx => by cases hx)⟩
end
end Dl
/-! text A3 -/
set_option Elab.async false
set_option linter.all false
set_option maxRecDepth 100000
set_option maxHeartbeats 1000000
namespace K53
open PySem PySem.Spec PyProof.Rows L2 Dl
local macro_rules | `(tactic| walk_at "fl") => `(tactic| first | rfl | assumption | (simp only [*]; done) | decide)
/-- the end of a call: what comes back is wanted -/
theorem pre1 {ι : Type} {pre : ι → List PyData → Prop} {post : ι → PyData → Prop} {l : List PyData} {P : PyData → Prop} (i : ι) (h : pre i l) (q : ∀ d, post i d → P d) : ∀ ds, ds = l → ∃ i, pre i ds ∧ ∀ d, post i d → P d := fun ds e => ⟨i, by rw [e]; exact h, q⟩
section
variable {P : Program} {w : World} {K : PySem.W.Frag} {mg : Str → Option Value} {base : Heap}
abbrev preOf (l : List PyData) (ds : List PyData) : Prop := ds = [.list l] ∧ l ≠ [] ∧ l.length ≤ 1000
theorem ok_of (T : Txt K mg) : DefOk P w K mg base 2 "_law_of" ["_law_deal", "_law_some"] (spM K preOf (fun l d => d ∈ l)) := by
  refine def_M T.F_L_of T.g_L_of b_L_of sc_L_of (by rintro n _ ⟨rfl, _⟩; rfl) ?_
  rintro X ⟨cdv, A, outer, s, H0, E, hr, rfl⟩ l S0 H dl cl ds σ Q C ⟨rfl, hl, hz⟩ hQ
  have h0 : 0 < l.length := List.length_pos_iff.mpr hl
  refine ss_ret (v' := Q) C (de_ixP (P := fun d => d ∈ l) (de_var 1 rfl) (de_callM 0 rfl rfl (ok_any T) hr (da_consE (de_len T.n_len (de_var 1 rfl).dr rfl) da_nilE) (fun ds e => ⟨(l.length : Int), ⟨e, by omega, by omega⟩, fun d p => p⟩)) ?_) fun v H' d C' st pd rv => ?_
  · rintro _ _ rfl ⟨k, h1, h2, rfl⟩
    obtain ⟨n, rfl⟩ := Int.eq_ofNat_of_zero_le h1
    have hn : n < l.length := by omega
    exact ⟨l[n], List.getElem?_eq_getElem hn, List.getElem_mem hn⟩
  · have hD : Deal H' dl cl := by
      rcases C'.deal with z | ⟨_, _, z, h⟩
      · cases z
      · cases z; exact h
    exact hQ v H' d C'.fr hD pd rv
end
end K53
/-! text D7 -/
set_option Elab.async false
set_option linter.all false
set_option maxRecDepth 100000
set_option maxHeartbeats 1000000
namespace Dl
open PySem PySem.Spec PyProof.Rows L2
section
variable {X : Cx} {W : Wd} {S : List Addr} {G : List (Addr × MO)} {δ δ' δ'' : List Sl} {a b c e tg : Expr} {es : List Expr} {P Pa Pb : PyData → Prop} {pos : Pos} {σ : L2.St} {H H0 : Hp} {D : Ends} {r : List Stmt} {d x y : PyData} {ds l : List PyData} {js ks : List Nat} {dl cl : Addr} {S0 : List Addr}
theorem Ctx.dealM (C : Ctx X.K ⟨[dl, cl], H0, [dl, cl]⟩ S G δ σ H) : Deal H dl cl := by
  rcases C.deal with z | ⟨_, _, z, h⟩
  · cases z
  · cases z; exact h
theorem Ctx.dealW (C : Ctx X.K W S G δ σ H) (h : W.M = [dl, cl]) : Deal H dl cl := by
  rcases C.deal with z | ⟨_, _, z, h'⟩
  · rw [h] at z; cases z
  · rw [h] at z; cases z; exact h'
theorem ss_retM {post : PyData → Prop} (C : Ctx X.K ⟨[dl, cl], H0, [dl, cl]⟩ S G δ σ H) (he : DE X ⟨[dl, cl], H0, [dl, cl]⟩ S G δ e P) (hQ : ∀ v H' d, Stp [dl, cl] H0 H' → Deal H' dl cl → post d → Rp X.K S0 H' d v → D.rt v H') (hp : ∀ d, P d → post d) (hS : ∀ x ∈ S0, x ∈ S := by exact fun _ h => h) : SS X (.Return (some e) pos :: r) D σ H :=
  ss_ret (v' := D.rt) C he fun v H' d C' st pd rv => hQ v H' d C'.fr C'.dealM (hp d pd) (rv.mv (Mv.sub hS))
theorem ss_retP {post : PyData → Prop} (C : Ctx X.K ⟨[], H0, []⟩ S G δ σ H) (he : DE X ⟨[], H0, []⟩ S G δ e P) (hQ : ∀ v H' d, Stp [] H0 H' → post d → Rp X.K S0 H' d v → D.rt v H') (hp : ∀ d, P d → post d) (hS : ∀ x ∈ S0, x ∈ S := by exact fun _ h => h) : SS X (.Return (some e) pos :: r) D σ H :=
  ss_ret (v' := D.rt) C he fun v H' d C' st pd rv => hQ v H' d C'.fr (hp d pd) (rv.mv (Mv.sub hS))
/-! ints that are not told -/
abbrev IsI (p : Int → Prop) : PyData → Prop := fun d => ∃ i, d = .int i ∧ p i
theorem de_opN {op : Operator} {C : Int → Int → Prop} {f : Int → Int → Int} {p q : Int → Prop} (pr : Int → Prop) (ho : OpR X (binaryOp op) (rI C fun i j => .int (f i j))) (ha : DE X W S G δ a (IsI p)) (hb : DE X W S G δ b (IsI q)) (hc : ∀ i j, p i → q j → C i j ∧ pr (f i j)) : DE X W S G δ (.BinOp a op b pos) (IsI pr) :=
  de_op ho ha hb fun da db ⟨i, e1, h1⟩ ⟨j, e2, h2⟩ => by
    subst e1 e2
    exact fun H x y t ra rb Q q => ⟨i, j, ra, rb, (hc i j h1 h2).1, q _ H (.int _) .refl ⟨_, rfl, (hc i j h1 h2).2⟩ rfl⟩
theorem de_opN0 {op : Operator} {f : Int → Int → Int} {p q : Int → Prop} (pr : Int → Prop) (ho : OpR X (binaryOp op) (rI0 fun i j => .int (f i j))) (ha : DE X W S G δ a (IsI p)) (hb : DE X W S G δ b (IsI q)) (hc : ∀ i j, p i → q j → pr (f i j)) : DE X W S G δ (.BinOp a op b pos) (IsI pr) :=
  de_op ho ha hb fun da db ⟨i, e1, h1⟩ ⟨j, e2, h2⟩ => by
    subst e1 e2
    exact fun H x y t ra rb Q q => ⟨i, j, ra, rb, q _ H (.int _) .refl ⟨_, rfl, hc i j h1 h2⟩ rfl⟩
theorem de_I {i : Int} (h : DE X W S G δ e (fun y => y = .int i)) : DE X W S G δ e (IsI (fun j => j = i)) := h.imp fun d e => ⟨i, e, rfl⟩
theorem de_intOf {p : Pos} {q : Int → Prop} (hm : X.mg "int" = none) (ha : DE X W S G δ e (IsI q)) (hg : Gl X "int" := by rfl) (na : starEach [e] X.env = (false, eval e X.env) :: starEach [] X.env := by exact star_cons rfl) : DE X W S G δ (.Call (.Name "int" p) [e] [] pos) (IsI q) := fun σ H C Q k =>
  EE.of (pe_callTy call_int1 hg hm (by decide +kernel) (pa_cons pee pa_nil na) (he := na)) (ha σ H C _ fun v H1 d C1 s1 ⟨i, e1, h1⟩ rv => by
    subst e1
    have rv : v = .int i := rv
    exact .inl ⟨i, by rw [rv], k _ H1 (.int i) C1 s1 ⟨i, rfl, h1⟩ rfl⟩)
/-- displays of what is not told -/
theorem de_tupP {Ps : List PyData → Prop} {x1} (h : DAs X W S G δ es Ps) (hl : ∀ ds, Ps ds → ds.length ≤ 1000) : DE X W S G δ (.Tuple es x1 pos) (fun d => ∃ ds, d = .tuple ds ∧ Ps ds) := fun σ H C Q q =>
  EE.of (pe_tup pea) (h σ H C _ fun xs H1 ds' C1 s1 p r => ⟨by rw [r.len]; exact Nat.le_of_lt (small1000 (hl _ p)), fun l hl => by
    have st : Stp [] H1 (upd H1 l (.tup xs)) := Stp.new hl
    exact q _ _ (.tuple ds') (C1.ext st) (s1.trans st.nil) ⟨_, rfl, p⟩ ⟨l, xs, rfl, .inl ⟨C1.trk.out hl, upd_same⟩, r.mv (st.mv fun x hx => by cases hx)⟩⟩)
/-! data without lists -/
mutual
def noL : PyData → Bool
  | .none => true
  | .bool _ => true
  | .int _ => true
  | .str _ => true
  | .tuple ds => noLs ds
  | .list _ => false
  | .dict _ => false
def noLs : List PyData → Bool
  | [] => true
  | d :: ds => noL d && noLs ds
end
mutual
theorem Rp.lift {K : PySem.W.Frag} {S S' : List Addr} {H : Hp} (h : ∀ p ∈ S, p ∈ S' ∨ ∃ xs, H p = some (.lst xs)) : ∀ {d : PyData} {v : V}, noL d = true → Rp K S' H d v → Rp K S H d v
  | .none, _, _, r => r
  | .bool _, _, _, r => r
  | .int _, _, _, r => r
  | .str _, _, _, r => r
  | .tuple ds, v, n, ⟨a, xs, e, t, r⟩ => ⟨a, xs, e, by
      rcases t with ⟨h1, h2⟩ | t
      · refine .inl ⟨fun z => ?_, h2⟩
        rcases h a z with z | ⟨ys, z⟩
        · exact h1 z
        · rw [h2] at z; cases z
      · exact .inr t, Rps.lift h n r⟩
  | .list _, _, n, _ => by cases n
  | .dict _, _, n, _ => by cases n
theorem Rps.lift {K : PySem.W.Frag} {S S' : List Addr} {H : Hp} (h : ∀ p ∈ S, p ∈ S' ∨ ∃ xs, H p = some (.lst xs)) : ∀ {ds : List PyData} {vs : List V}, noLs ds = true → Rps K S' H ds vs → Rps K S H ds vs
  | [], _, _, r => r
  | d :: ds, vs, n, ⟨v, vs', e, h1, h2⟩ => by
    have n : (noL d && noLs ds) = true := n
    rw [Bool.and_eq_true] at n
    exact ⟨v, vs', e, Rp.lift h n.1 h1, Rps.lift h n.2 h2⟩
end
/-- arguments among which is a list that changes: told over fewer changing ones -/
def DAx (X : Cx) (W : Wd) (S : List Addr) (G : List (Addr × MO)) (δ : List Sl) (S' : List Addr) (es : List Expr) (P : List PyData → Prop) : Prop := ∀ (σ : L2.St) (H : Hp), Ctx X.K W S G δ σ H → ∀ Q : List V → Hp → Prop, (∀ vs H' ds, Ctx X.K W S G δ σ H' → Stp W.M H H' → P ds → Rps X.K S' H' ds vs → Q vs H') → EA X es σ H Q
theorem dx_nil {S' : List Addr} : DAx X W S G δ S' [] (fun ds => ds = []) := fun σ H C Q q => EA.of pa_nil (q [] H [] C .refl rfl rfl)
theorem dx_cons {S' : List Addr} (hS : ∀ x ∈ S', x ∈ S) (hM : ∀ x ∈ W.M, x ∈ S') (h : DE X W S G δ e (fun y => y = d)) (hr : DAx X W S G δ S' es (fun y => y = ds)) (hs : starEach (e :: es) X.env = (false, eval e X.env) :: starEach es X.env := by exact star_cons rfl) : DAx X W S G δ S' (e :: es) (fun y => y = d :: ds) := fun σ H C Q q =>
  EA.of (pa_cons pee pea hs) (h σ H C _ fun x H1 d1 C1 s1 p r => hr σ H1 C1 _ fun xs H2 ds1 C2 s2 ps rs => q _ H2 (d1 :: ds1) C2 (s1.trans s2) (by rw [p, ps]) (.cons ((r.mv (Mv.sub hS)).mv (s2.mv hM)) rs))
theorem dx_m {S' : List Addr} (i : Nat) {p : Addr} {xn : Str} {p1 : Pos} (hd : δ[i]? = some (.v (.ref p))) (hG : (p, .lst l) ∈ G) (hp : p ∉ S') (hS : ∀ x ∈ S', x ∈ S) (hM : ∀ x ∈ W.M, x ∈ S') (hr : DAx X W S G δ S' es (fun y => y = ds)) (hs : starEach (.Name xn p1 :: es) X.env = (false, eval (.Name xn p1) X.env) :: starEach es X.env := by exact star_cons rfl)
    (hN : X.N[i]? = some xn := by rfl) (hv : Vis X.env.scope xn := by first | exact Or.inl rfl | exact Or.inr (Or.inl rfl) | exact Or.inr (Or.inr rfl)) (h1 : (xn == ("__debug__" : Str)) = false := by decide) (h2 : (xn == ("__classdict__" : Str)) = false := by decide) : DAx X W S G δ S' (.Name xn p1 :: es) (fun y => y = .list l :: ds) := fun σ H C Q q =>
  EA.of (pa_cons pee pea hs) (ev_v i C hd (hr σ H C _ fun xs H2 ds1 C2 s2 ps rs => by
    obtain ⟨⟨ys, hl, ry⟩, _⟩ := C2.objs _ hG
    exact q _ H2 (.list l :: ds1) C2 s2 (by rw [ps]) (.cons ⟨p, ys, rfl, ⟨hp, hl⟩, ry.mv (Mv.sub hS)⟩ rs)) hN hv h1 h2)
theorem de_callMR {S' : List Addr} {k : Nat} {x xd : Str} {ps : List Str} {ι : Type} {pre : ι → List PyData → Prop} {post : ι → PyData → Prop} {Ps : List PyData → Prop} {p pd : Pos} {dl cl : Addr} (i : Nat) (hW : W.M = [dl, cl]) (hd : δ[i]? = some (.v (.ref dl))) (hS : ∀ x ∈ S', x ∈ S) (hM : ∀ x ∈ W.M, x ∈ S') (hG : ∀ p ∈ S, p ∈ S' ∨ ∃ ds, (p, MO.lst ds) ∈ G) (F : DefOk X.prog X.w X.K X.mg X.base k x ps (spM X.K pre post)) (hr : Room k X.A) (ha : DAx X W S G δ S' es Ps) (hpre : ∀ ds, Ps ds → ∃ i, pre i ds ∧ ∀ d, post i d → P d ∧ noL d = true)
    (hN : X.N[i]? = some xd := by rfl) (hv : Vis X.env.scope xd := by first | exact Or.inl rfl | exact Or.inr (Or.inl rfl) | exact Or.inr (Or.inr rfl)) (g1 : (xd == ("__debug__" : Str)) = false := by decide) (g2 : (xd == ("__classdict__" : Str)) = false := by decide)
    (hg : Gl X x := by rfl) (hdb : (x == ("__debug__" : Str)) = false := by decide) (he : starEach (.Name xd pd :: es) X.env = (false, eval (.Name xd pd) X.env) :: starEach es X.env := by exact star_cons rfl) (hpl : (backTo pos (starEach es X.env)).any (·.1) = false := by exact back_plain rfl) : DE X W S G δ (.Call (.Name x p) (.Name xd pd :: es) [] pos) P := fun σ H C Q q => by
  obtain ⟨f, fd, h1, h2, h3, h4⟩ := F.ex
  obtain ⟨o, e1, e2⟩ := C.env.get hd
  have e2 : o = some (.ref dl) := e2
  refine EE.of (pe_call (dvs := []) h4 hr hg h1 h2 h3 .nil pass0 (pa_cons (pe_var (i := i) hN hv g1 g2) pea he) hdb he hpl) ⟨.ref dl, by rw [e1, e2], ha σ H C _ fun vs H1 ds C1 s1 pd rs => ?_⟩
  show spM X.K pre post ((V.ref dl :: vs) ++ []) H1 Q E0
  rw [List.append_nil]
  have hD : Deal H1 dl cl := C1.dealW hW
  obtain ⟨i, p1, p2⟩ := hpre ds pd
  refine ⟨i, S', dl, cl, ds, vs, rfl, fun a ha => C1.trk a (hS a ha), hM dl (by rw [hW]; simp), hM cl (by rw [hW]; simp), hD, rs, p1, fun v H' d st D' po rv => ?_⟩
  have st' : Stp W.M H1 H' := by rw [hW]; exact st
  have C2 := C1.stp st' fun dl' cl' z => by
    rw [hW] at z
    cases z
    exact D'
  refine q v H' d C2 (s1.trans st') (p2 d po).1 (Rp.lift (fun a ha => ?_) (p2 d po).2 rv)
  rcases hG a ha with z | ⟨es, z⟩
  · exact .inl z
  · obtain ⟨⟨xs, hl, _⟩, _⟩ := C2.objs _ z
    exact .inr ⟨xs, hl⟩
end
end Dl
/-! text D8 -/
set_option Elab.async false
set_option linter.all false
set_option maxRecDepth 100000
set_option maxHeartbeats 1000000
namespace Dl
open PySem PySem.Spec PyProof.Rows L2
/-! ### dicts as data -/
def mD (m : List (Key × PyData)) : List (PyData × PyData) := m.map fun p => (kD p.1, p.2)
def dvl (m : List (Key × PyData)) (k : Key) : Option PyData := (m.find? fun kv => decide (kv.1 = k)).map (·.2)
def dpt (m : List (Key × PyData)) (k : Key) (v : PyData) : List (Key × PyData) :=
  if (m.any fun kv => decide (kv.1 = k)) = true then m.map (fun kv => if kv.1 = k then (kv.1, v) else kv) else m ++ [(k, v)]
theorem dvl_nil {k : Key} : dvl [] k = none := rfl
theorem dvl_pos {p : Key × PyData} {r : List (Key × PyData)} {k : Key} (e : p.1 = k) : dvl (p :: r) k = some p.2 := by simp [dvl, List.find?_cons, e]
theorem dvl_neg {p : Key × PyData} {r : List (Key × PyData)} {k : Key} (e : ¬ p.1 = k) : dvl (p :: r) k = dvl r k := by simp [dvl, List.find?_cons, e]
theorem dvl_any (k : Key) : ∀ m : List (Key × PyData), (m.any fun kv => decide (kv.1 = k)) = (dvl m k).isSome
  | [] => rfl
  | p :: r => by
    rw [List.any_cons, dvl_any k r]
    by_cases e : p.1 = k
    · rw [dvl_pos e]; simp [e]
    · rw [dvl_neg e]; simp [e]
theorem dvl_map (k j : Key) (y : PyData) : ∀ m : List (Key × PyData), dvl (m.map fun kv => if kv.1 = k then (kv.1, y) else kv) j = (dvl m j).map fun x => if j = k then y else x
  | [] => rfl
  | p :: r => by
    have ih := dvl_map k j y r
    rw [List.map_cons]
    by_cases h : p.1 = k
    · rw [if_pos h]
      by_cases e : p.1 = j
      · rw [dvl_pos (p := (p.1, y)) e, dvl_pos e, Option.map_some, if_pos (e.symm.trans h)]
      · rw [dvl_neg (p := (p.1, y)) e, dvl_neg e, ih]
    · rw [if_neg h]
      by_cases e : p.1 = j
      · rw [dvl_pos (p := p) e, dvl_pos e, Option.map_some, if_neg (fun z => h (e.trans z))]
      · rw [dvl_neg (p := p) e, dvl_neg e, ih]
theorem dvl_snoc (k j : Key) (y : PyData) : ∀ m : List (Key × PyData), dvl m k = none → dvl (m ++ [(k, y)]) j = if j = k then some y else dvl m j
  | [], _ => by
    by_cases e : k = j
    · rw [if_pos e.symm]; exact dvl_pos (p := (k, y)) e
    · rw [if_neg (fun z => e z.symm)]; exact dvl_neg (p := (k, y)) e
  | p :: r, hn => by
    rw [List.cons_append]
    have hk : ¬ p.1 = k := fun z => by rw [dvl_pos z] at hn; cases hn
    rw [dvl_neg hk] at hn
    have ih := dvl_snoc k j y r hn
    by_cases e : p.1 = j
    · rw [dvl_pos e, dvl_pos e, if_neg (fun z => hk (e.trans z))]
    · rw [dvl_neg e, dvl_neg e, ih]
theorem dvl_put (m : List (Key × PyData)) (k j : Key) (y : PyData) : dvl (dpt m k y) j = if j = k then some y else dvl m j := by
  unfold dpt
  by_cases a : (m.any fun kv => decide (kv.1 = k)) = true
  · rw [if_pos a, dvl_map]
    rw [dvl_any] at a
    by_cases e : j = k
    · obtain ⟨x, hx⟩ := Option.isSome_iff_exists.mp a
      rw [if_pos e, e, hx, Option.map_some, if_pos rfl]
    · rw [if_neg e]
      cases dvl m j with
      | none => rfl
      | some x => rw [Option.map_some, if_neg e]
  · rw [if_neg a]
    refine dvl_snoc k j y m ?_
    rw [dvl_any] at a
    cases q : dvl m k with
    | none => rfl
    | some x => rw [q] at a; exact (a rfl).elim
theorem dpt_len (m : List (Key × PyData)) (k : Key) (v : PyData) : (dpt m k v).length ≤ m.length + 1 := by
  unfold dpt
  split
  · rw [List.length_map]; omega
  · rw [List.length_append, List.length_cons, List.length_nil]; omega
theorem dpt_new {m : List (Key × PyData)} {k : Key} (v : PyData) (h : dvl m k = none) : dpt m k v = m ++ [(k, v)] := by
  unfold dpt
  rw [dvl_any, h]
  exact if_neg (by decide)
/-- a dict of pairs, from the left -/
def dmk (l : List (Key × PyData)) : List (Key × PyData) := l.foldl (fun m p => dpt m p.1 p.2) []
theorem dmk_snoc (l : List (Key × PyData)) (p : Key × PyData) : dmk (l ++ [p]) = dpt (dmk l) p.1 p.2 := by
  unfold dmk
  rw [List.foldl_append] <;> rfl
theorem kD_inj : ∀ {a b : Key}, kD a = kD b → a = b
  | .inl _, .inl _, h => by cases h; rfl
  | .inr _, .inr _, h => by cases h; rfl
  | .inl _, .inr _, h => by cases h
  | .inr _, .inl _, h => by cases h
section
variable {K : PySem.W.Frag} {S S' : List Addr} {H H' : Hp}
theorem kD_v : ∀ {k : Key} {v : V}, Rp K S H (kD k) v → v = kV k
  | .inl _, _, h => h
  | .inr _, _, h => h
theorem kD_rp (k : Key) : Rp K S H (kD k) (kV k) := by cases k <;> rfl
theorem Rkv.rpm : ∀ {m : List (Key × PyData)} {kvs : List (Key × V)}, Rkv K S H m kvs → Rpm K S H (mD m) kvs
  | [], _, h => h
  | p :: m, _, ⟨q, r, e, h1, h2⟩ => ⟨p.1, q, r, e, rfl, h1, Rkv.rpm h2⟩
theorem Rpm.rkv : ∀ {m : List (Key × PyData)} {kvs : List (Key × V)}, Rpm K S H (mD m) kvs → Rkv K S H m kvs
  | [], _, h => h
  | p :: m, _, ⟨k, q, r, e, h0, h1, h2⟩ => ⟨q, r, by rw [e, kD_inj h0], h1, Rpm.rkv h2⟩
theorem Rkv.len : ∀ {m : List (Key × PyData)} {kvs : List (Key × V)}, Rkv K S H m kvs → kvs.length = m.length
  | [], _, h => by
    have h : _ = [] := h
    rw [h] <;> rfl
  | p :: m, _, ⟨q, r, e, h1, h2⟩ => by rw [e, List.length_cons, List.length_cons, Rkv.len h2]
theorem Rkv.keys : ∀ {m : List (Key × PyData)} {kvs : List (Key × V)}, Rkv K S H m kvs → kvs.map (·.1) = m.map (·.1)
  | [], _, h => by
    have h : _ = [] := h
    rw [h] <;> rfl
  | p :: m, _, ⟨q, r, e, h1, h2⟩ => by rw [e, List.map_cons, List.map_cons, Rkv.keys h2]
theorem Rkv.get : ∀ {m : List (Key × PyData)} {kvs : List (Key × V)}, Rkv K S H m kvs → ∀ {k : Key} {d : PyData}, dvl m k = some d → ∃ v, valV kvs k = some v ∧ Rp K S H d v
  | [], _, _, k, d, h => by cases h
  | p :: m, _, ⟨q, r, e, h1, h2⟩, k, d, h => by
    subst e
    by_cases hk : p.1 = k
    · rw [dvl_pos hk] at h
      cases h
      exact ⟨q, valV_pos hk, h1⟩
    · rw [dvl_neg hk] at h
      obtain ⟨v, e, r'⟩ := Rkv.get h2 h
      exact ⟨v, by rw [valV_neg (by exact hk)]; exact e, r'⟩
theorem Rkv.has : ∀ {m : List (Key × PyData)} {kvs : List (Key × V)}, Rkv K S H m kvs → ∀ k : Key, (valV kvs k).isSome = (dvl m k).isSome
  | [], _, h, k => by
    have h : _ = [] := h
    rw [h] <;> rfl
  | p :: m, _, ⟨q, r, e, h1, h2⟩, k => by
    subst e
    by_cases hk : p.1 = k
    · rw [valV_pos (by exact hk), dvl_pos hk] <;> rfl
    · rw [valV_neg (by exact hk), dvl_neg hk, Rkv.has h2 k]
theorem Rkv.at : ∀ {m : List (Key × PyData)} {kvs : List (Key × V)}, Rkv K S H m kvs → ∀ {i : Nat} {p : Key × V}, kvs[i]? = some p → ∃ d, m[i]? = some (p.1, d) ∧ Rp K S H d p.2
  | [], _, h, i, p, e => by
    have h : _ = [] := h
    rw [h] at e; simp at e
  | q :: m, _, ⟨v, r, e, h1, h2⟩, 0, p, h => by
    subst e
    simp at h
    subst h
    exact ⟨q.2, rfl, h1⟩
  | q :: m, _, ⟨v, r, e, h1, h2⟩, i + 1, p, h => by
    subst e
    exact Rkv.at h2 (i := i) (by simpa using h)
theorem Rkv.map1 (k : Key) {d : PyData} {v : V} (r : Rp K S H d v) : ∀ {m : List (Key × PyData)} {kvs : List (Key × V)}, Rkv K S H m kvs → Rkv K S H (m.map fun p => if p.1 = k then (p.1, d) else p) (kvs.map fun p => if p.1 = k then (p.1, v) else p)
  | [], _, h => by
    have h : _ = [] := h
    rw [h] <;> rfl
  | p :: m, _, ⟨q, r', e, h1, h2⟩ => by
    subst e
    rw [List.map_cons, List.map_cons]
    by_cases hk : p.1 = k
    · exact ⟨v, _, by simp [hk], by rw [if_pos hk]; exact r, Rkv.map1 k r h2⟩
    · exact ⟨q, _, by simp [hk], by rw [if_neg hk]; exact h1, Rkv.map1 k r h2⟩
theorem Rkv.snoc (k : Key) {d : PyData} {v : V} (r : Rp K S H d v) : ∀ {m : List (Key × PyData)} {kvs : List (Key × V)}, Rkv K S H m kvs → Rkv K S H (m ++ [(k, d)]) (kvs ++ [(k, v)])
  | [], _, h => by
    have h : _ = [] := h
    rw [h]
    exact ⟨v, [], rfl, r, rfl⟩
  | p :: m, _, ⟨q, r', e, h1, h2⟩ => by
    subst e
    exact ⟨q, _, rfl, h1, Rkv.snoc k r h2⟩
theorem Rkv.put {m : List (Key × PyData)} {kvs : List (Key × V)} (h : Rkv K S H m kvs) (k : Key) {d : PyData} {v : V} (r : Rp K S H d v) : Rkv K S H (dpt m k d) (putK kvs k v) := by
  have e : (kvs.any fun kv => decide (kv.1 = k)) = (m.any fun kv => decide (kv.1 = k)) := by rw [valV_any, dvl_any, h.has]
  unfold putK dpt
  rw [e]
  by_cases q : (m.any fun kv => decide (kv.1 = k)) = true
  · rw [if_pos q, if_pos q]; exact h.map1 k r
  · rw [if_neg q, if_neg q]; exact h.snoc k r
/-! a dict is locked and unlocked -/
def Lk (a : Addr) (kvs : List (Key × V)) (H H' : Hp) : Prop := (∀ b, b ≠ a → H' b = H b) ∧ Rd H a (.dK kvs) ∧ Rd H' a (.dK kvs)
theorem Lk.tup {a b : Addr} {kvs : List (Key × V)} {xs : List V} (l : Lk a kvs H H') (h : H b = some (.tup xs)) : H' b = some (.tup xs) := by
  rw [l.1 b (fun z => by subst z; rcases l.2.1 with e | ⟨_, e⟩ <;> rw [h] at e <;> cases e)]; exact h
theorem Lk.lst {a b : Addr} {kvs : List (Key × V)} {xs : List V} (l : Lk a kvs H H') (h : H b = some (.lst xs)) : H' b = some (.lst xs) := by
  rw [l.1 b (fun z => by subst z; rcases l.2.1 with e | ⟨_, e⟩ <;> rw [h] at e <;> cases e)]; exact h
theorem Lk.dct {a b : Addr} {kvs ks : List (Key × V)} (l : Lk a kvs H H') (h : Rd H b (.dK ks)) : Rd H' b (.dK ks) := by
  by_cases z : b = a
  · subst z
    have e : ks = kvs := by
      rcases l.2.1 with e | ⟨_, e⟩ <;> rcases h with h | ⟨_, h⟩ <;> rw [h] at e <;> cases e <;> rfl
    rw [e]
    exact l.2.2
  · rcases h with h | ⟨o, h⟩
    · exact .inl (by rw [l.1 b z]; exact h)
    · exact .inr ⟨o, by rw [l.1 b z]; exact h⟩
mutual
theorem Rp.lk {a : Addr} {kvs : List (Key × V)} (l : Lk a kvs H H') : ∀ {d : PyData} {v : V}, Rp K S H d v → Rp K S H' d v
  | .none, _, h => h
  | .bool b, _, h => h
  | .int i, _, h => h
  | .str x, _, h => h
  | .tuple ds, v, h => by
    obtain ⟨a, xs, e, t, r⟩ := h
    refine ⟨a, xs, e, ?_, Rps.lk l r⟩
    rcases t with ⟨h1, h2⟩ | t
    · exact .inl ⟨h1, l.tup h2⟩
    · exact .inr t
  | .list ds, v, h => by
    obtain ⟨a, xs, e, ⟨h1, h2⟩, r⟩ := h
    exact ⟨a, xs, e, ⟨h1, l.lst h2⟩, Rps.lk l r⟩
  | .dict ds, v, h => by
    obtain ⟨a, xs, e, ⟨h1, h2⟩, r⟩ := h
    exact ⟨a, xs, e, ⟨h1, l.dct h2⟩, Rpm.lk l r⟩
theorem Rps.lk {a : Addr} {kvs : List (Key × V)} (l : Lk a kvs H H') : ∀ {ds : List PyData} {vs : List V}, Rps K S H ds vs → Rps K S H' ds vs
  | [], _, h => h
  | d :: ds, vs, h => by
    obtain ⟨v, vs', e, h1, h2⟩ := h
    exact ⟨v, vs', e, Rp.lk l h1, Rps.lk l h2⟩
theorem Rpm.lk {a : Addr} {kvs : List (Key × V)} (l : Lk a kvs H H') : ∀ {ds : List (PyData × PyData)} {vs : List (Key × V)}, Rpm K S H ds vs → Rpm K S H' ds vs
  | [], _, h => h
  | (kd, d) :: ds, vs, h => by
    obtain ⟨k, v, r, e, h0, h1, h2⟩ := h
    exact ⟨k, v, r, e, h0, Rp.lk l h1, Rpm.lk l h2⟩
end
theorem SlOk.lk {a : Addr} {kvs : List (Key × V)} (l : Lk a kvs H H') : ∀ {o : Option V} {s : Sl}, SlOk K S H o s → SlOk K S H' o s
  | _, .u, _ => True.intro
  | _, .v _, h => h
  | _, .d _, ⟨v, e, r⟩ => ⟨v, e, r.lk l⟩
theorem EnvOk.lk {a : Addr} {kvs : List (Key × V)} (l : Lk a kvs H H') : ∀ {σ : L2.St} {δ : List Sl}, EnvOk K S H σ δ → EnvOk K S H' σ δ
  | _, [], h => h
  | _, _ :: _, ⟨o, σ', e, h1, h2⟩ => ⟨o, σ', e, h1.lk l, EnvOk.lk l h2⟩
theorem Rkv.lk {a : Addr} {kvs : List (Key × V)} (l : Lk a kvs H H') : ∀ {m : List (Key × PyData)} {ks : List (Key × V)}, Rkv K S H m ks → Rkv K S H' m ks
  | [], _, h => h
  | _ :: _, _, ⟨q, r, e, h1, h2⟩ => ⟨q, r, e, h1.lk l, Rkv.lk l h2⟩
theorem Obj1.lk {a b : Addr} {kvs : List (Key × V)} (l : Lk a kvs H H') (hb : b ≠ a) : ∀ {x : MO}, Obj1 K S H b x → Obj1 K S H' b x
  | .lst ds, ⟨xs, e, r⟩ => ⟨xs, by rw [l.1 b hb]; exact e, r.lk l⟩
  | .dct m', ⟨kvs, e, r⟩ => ⟨kvs, by rw [l.1 b hb]; exact e, r.lk l⟩
  | .dlk o kvs m', ⟨e, r⟩ => ⟨by rw [l.1 b hb]; exact e, r.lk l⟩
  | .tp ss, ⟨vs, e, r⟩ => ⟨vs, by rw [l.1 b hb]; exact e, r.lk l⟩
end
/-! the frame at a loop's start -/
def Wd.at (W : Wd) (G : List (Addr × MO)) (H : Hp) : Wd := ⟨W.M ++ G.map (·.1), H, W.M⟩
section
variable {K : PySem.W.Frag} {W : Wd} {S S' : List Addr} {G G' : List (Addr × MO)} {δ δ' : List Sl} {σ σ' : L2.St} {H H1 H' : Hp}
theorem Ctx.into (C : Ctx K W S G δ σ H) : Ctx K (W.at G H) S G δ σ H :=
  ⟨C.env, C.deal, fun a ha => ⟨(C.ms a ha).1, List.mem_append_left _ ha⟩, fun p hp => by
    obtain ⟨h1, h2, h3, h4⟩ := C.objs p hp
    exact ⟨h1, h2, h3, .inl (List.mem_append_right _ (List.mem_map_of_mem hp))⟩, C.trk, .refl⟩
theorem Ctx.atS (C : Ctx K W S G δ σ H) : ∀ a ∈ (W.at G H).M0, a ∈ S := fun a ha => by
  rcases List.mem_append.mp ha with z | z
  · exact (C.ms a z).1
  · obtain ⟨p, hp, e⟩ := List.mem_map.mp z
    rw [← e]
    exact (C.objs p hp).2.1
theorem Ctx.outof (C : Ctx K W S G δ σ H) (C' : Ctx K (W.at G H) S G' δ' σ' H') : Ctx K W S G' δ' σ' H' := by
  refine ⟨C'.env, C'.deal, C.ms, fun p hp => ?_, C'.trk, fun b o e n => ?_⟩
  · obtain ⟨h1, h2, h3, h4⟩ := C'.objs p hp
    refine ⟨h1, h2, h3, ?_⟩
    rcases h4 with h4 | h4
    · rcases List.mem_append.mp h4 with z | z
      · exact absurd z h3
      · obtain ⟨q, hq, e⟩ := List.mem_map.mp z
        rw [← e]
        exact (C.objs q hq).2.2.2
    · by_cases hm : p.1 ∈ W.M0
      · exact .inl hm
      · refine .inr ?_
        cases q : W.H0 p.1 with
        | none => rfl
        | some u =>
          have := C.fr p.1 u q hm
          have h4 : H p.1 = none := h4
          rw [h4] at this; cases this
  · refine C'.fr b o (C.fr b o e n) fun z => ?_
    rcases List.mem_append.mp z with z | z
    · exact n (C.ms b z).2
    · obtain ⟨q, hq, e'⟩ := List.mem_map.mp z
      rcases (C.objs q hq).2.2.2 with z2 | z2
      · exact n (by rw [← e']; exact z2)
      · rw [e', e] at z2; cases z2
/-- the thing at a, no changing one, is locked or unlocked -/
theorem Ctx.lk {a : Addr} {kvs : List (Key × V)} (C : Ctx K W S G δ σ H) (l : Lk a kvs H H') (ha : a ∉ S) (hf : ∀ o, W.H0 a = some o → a ∉ W.M0 → H' a = some o) : Ctx K W S G δ σ H' := by
  have ne : ∀ b ∈ S, b ≠ a := fun b hb z => ha (by rw [← z]; exact hb)
  refine ⟨C.env.lk l, ?_, C.ms, fun p hp => ?_, fun b hb => by rw [l.1 b (ne b hb)]; exact C.trk b hb, fun b o e n => ?_⟩
  · rcases C.deal with e | ⟨dl, cl, e, h1, cs, b, h2, h3, h4⟩
    · exact .inl e
    · have hd : dl ∈ S := (C.ms dl (by rw [e]; simp)).1
      have hc : cl ∈ S := (C.ms cl (by rw [e]; simp)).1
      exact .inr ⟨dl, cl, e, h1, cs, b, by rw [l.1 _ (ne _ hd)]; exact h2, by rw [l.1 _ (ne _ hc)]; exact h3, h4⟩
  · obtain ⟨h1, h2, h3, h4⟩ := C.objs p hp
    exact ⟨h1.lk l (ne _ h2), h2, h3, h4⟩
  · by_cases z : b = a
    · subst z
      exact hf o e n
    · rw [l.1 b z]
      exact C.fr b o e n
end
/-! ### reading dicts -/
section
variable {X : Cx} {W : Wd} {S : List Addr} {G : List (Addr × MO)} {δ δ' δ'' : List Sl} {a b c e tg : Expr} {es : List Expr} {P Pa Pb : PyData → Prop} {pos : Pos} {σ : L2.St} {H : Hp} {D : Ends} {r : List Stmt} {d x y : PyData} {ds l : List PyData} {js ks : List Nat} {m : List (Key × PyData)} {k : Key}
theorem rp_dict {K : PySem.W.Frag} {v : V} (h : Rp K S H (.dict (mD m)) v) : ∃ a kvs, v = .ref a ∧ a ∉ S ∧ Rd H a (.dK kvs) ∧ Rkv K S H m kvs := by
  obtain ⟨a, kvs, e, ⟨h1, h2⟩, r⟩ := h
  exact ⟨a, kvs, e, h1, h2, r.rkv⟩
theorem dr_md (i : Nat) {p : Addr} {xn : Str} {mo : MO} (hd : δ[i]? = some (.v (.ref p))) (hG : (p, mo) ∈ G) (hm : mo = .dct m ∨ ∃ o kvs, mo = .dlk o kvs m) (hN : X.N[i]? = some xn := by rfl) (hv : Vis X.env.scope xn := by first | exact Or.inl rfl | exact Or.inr (Or.inl rfl) | exact Or.inr (Or.inr rfl)) (h1 : (xn == ("__debug__" : Str)) = false := by decide)
    (h2 : (xn == ("__classdict__" : Str)) = false := by decide) : DR X W S G δ (.Name xn pos) (fun z => z = .dict (mD m)) := fun σ H C Q q => by
  obtain ⟨ho, _⟩ := C.objs _ hG
  rcases hm with rfl | ⟨o, kvs, rfl⟩
  · obtain ⟨kvs, hl, rs⟩ := ho
    exact ev_v i C hd (q _ H _ C .refl rfl ⟨p, kvs, rfl, ⟨(fun z => by cases z), .inl hl⟩, (rs.mv (Mv.sub fun x hx => by cases hx)).rpm⟩) hN hv h1 h2
  · obtain ⟨hl, rs⟩ := ho
    exact ev_v i C hd (q _ H _ C .refl rfl ⟨p, kvs, rfl, ⟨(fun z => by cases z), .inr ⟨o, hl⟩⟩, (rs.mv (Mv.sub fun x hx => by cases hx)).rpm⟩) hN hv h1 h2
theorem rd_dget {v : V} (hkv : Rp X.K S H (kD k) v) {a : Addr} {kvs : List (Key × V)} (hd : Rd H a (.dK kvs)) {o : Option V} (e : valV kvs k = o) : DGet H a v o := .inl ⟨kvs, k, hd, kD_v hkv, e.symm⟩
theorem de_ixD (hu : X.A.units + 1 < cLine) (hb : DE X W S G δ b (fun z => z = .dict (mD m))) (hi : DE X W S G δ a (fun z => z = x)) (hx : x = kD k) (hv : dvl m k = some d) (hs : NoSl a := by intro _ _; rfl) : DE X W S G δ (.Subscript b a pos) (fun z => z = d) := fun σ H C Q q =>
  EE.of (pe_dget hu pee pee hs) (hb σ H C _ fun u H1 db C1 s1 e1 r1 => hi σ H1 C1 _ fun w H2 da C2 s2 e2 r2 => by
    subst e1 e2 hx
    obtain ⟨p, kvs, rfl, hp, hrd, rk⟩ := rp_dict (C1.mv s2 r1)
    obtain ⟨v, ev, rv⟩ := rk.get hv
    exact ⟨p, v, rfl, rd_dget r2 hrd ev, q v H2 d C2 (s1.trans s2) rfl rv⟩)
theorem de_ixDM (hu : X.A.units + 1 < cLine) (i : Nat) {p : Addr} {xn : Str} {mo : MO} {p1 : Pos} (hd : δ[i]? = some (.v (.ref p))) (hG : (p, mo) ∈ G) (hm : mo = .dct m ∨ ∃ o kvs, mo = .dlk o kvs m) (hi : DE X W S G δ a (fun z => z = x)) (hx : x = kD k) (hv : dvl m k = some d) (hs : NoSl a := by intro _ _; rfl) (hN : X.N[i]? = some xn := by rfl) (hvis : Vis X.env.scope xn := by first | exact Or.inl rfl | exact Or.inr (Or.inl rfl) | exact Or.inr (Or.inr rfl)) (h1 : (xn == ("__debug__" : Str)) = false := by decide)
    (h2 : (xn == ("__classdict__" : Str)) = false := by decide) : DE X W S G δ (.Subscript (.Name xn p1) a pos) (fun z => z = d) := fun σ H C Q q =>
  EE.of (pe_dget hu pee pee hs) (ev_v i C hd (hi σ H C _ fun w H2 da C2 s2 e2 r2 => by
    subst e2 hx
    obtain ⟨ho, _⟩ := C2.objs _ hG
    rcases hm with rfl | ⟨o, kvs, rfl⟩
    · obtain ⟨kvs, hl, rk⟩ := ho
      obtain ⟨v, ev, rv⟩ := rk.get hv
      exact ⟨p, v, rfl, rd_dget r2 (.inl hl) ev, q v H2 d C2 s2 rfl rv⟩
    · obtain ⟨hl, rk⟩ := ho
      obtain ⟨v, ev, rv⟩ := rk.get hv
      exact ⟨p, v, rfl, rd_dget r2 (.inr ⟨o, hl⟩) ev, q v H2 d C2 s2 rfl rv⟩) hN hvis h1 h2)
theorem be_inD (hu : X.A.units + 1 < cLine) (ha : DE X W S G δ a (fun z => z = x)) (hx : x = kD k) (hb : DR X W S G δ b (fun z => z = .dict (mD m))) (hm : behindInMarks .In b = false := by rfl) : BE X W S G δ (.Compare a [.In] [b] pos) (fun z => z = (dvl m k).isSome) := fun σ H C Q q =>
  ET.of (pt_cmp (pc_din hu pee pee) hm) (ha σ H C _ fun u H1 da C1 s1 e1 r1 => hb σ H1 C1 _ fun w H2 db C2 s2 e2 r2 => by
    subst e1 e2 hx
    obtain ⟨p, kvs, rfl, hp, hrd, rk⟩ := rp_dict r2
    exact ⟨p, valV kvs k, rfl, rd_dget (C1.mv s2 r1) hrd rfl, _, rfl, q _ H2 C2 (s1.trans s2) (by rw [rk.has])⟩)
theorem be_notinD (hu : X.A.units + 1 < cLine) (ha : DE X W S G δ a (fun z => z = x)) (hx : x = kD k) (hb : DR X W S G δ b (fun z => z = .dict (mD m))) (hm : behindInMarks .NotIn b = false := by rfl) : BE X W S G δ (.Compare a [.NotIn] [b] pos) (fun z => z = !(dvl m k).isSome) := fun σ H C Q q =>
  ET.of (pt_cmp (pc_dnotin hu pee pee) hm) (ha σ H C _ fun u H1 da C1 s1 e1 r1 => hb σ H1 C1 _ fun w H2 db C2 s2 e2 r2 => by
    subst e1 e2 hx
    obtain ⟨p, kvs, rfl, hp, hrd, rk⟩ := rp_dict r2
    exact ⟨p, valV kvs k, rfl, rd_dget (C1.mv s2 r1) hrd rfl, _, rfl, q _ H2 C2 (s1.trans s2) (by rw [rk.has])⟩)
end
end Dl
/-! text D9 -/
set_option Elab.async false
set_option linter.all false
set_option maxRecDepth 100000
set_option maxHeartbeats 1000000
namespace Dl
open PySem PySem.Spec PyProof.Rows L2
/-! ### walks -/
def IEx (X : Cx) (tg e : Expr) : TI := fun σ H R => ∀ (pins : List (Addr × Obj)) (s : Shared), Inv X pins σ H s → wpAny (model X.prog X.w) X.A (eval e X.env) (fun v s1 => wpAny (model X.prog X.w) X.A (pyIter v) (PIE X pins σ tg R) X.xe s1) X.xe s
theorem pie {X : Cx} {tg e : Expr} : PI X tg e (IEx X tg e) := ⟨fun pins s σ H R I h => h pins s I⟩
theorem IEx.of {X : Cx} {tg e : Expr} {t : TI} {σ : L2.St} {H : Hp} {R : It → Hp → Prop} (h : PI X tg e t) (q : t σ H R) : IEx X tg e σ H R := fun pins s I => h.run pins s σ H R I q
/-- an iterator over data, from H1 on -/
def DWalk (K : PySem.W.Frag) (S : List Addr) (H1 : Hp) (J : It) (ds : List PyData) : Prop :=
  ∃ (G : Hp → Prop) (Y : Nat → Hp → V → Hp → Prop), Walk J ds.length G Y ∧ (∀ H', Stp S H1 H' → G H') ∧ ∀ (i : Nat) (H : Hp) (x : V) (H' : Hp), i < ds.length → Stp S H1 H → Y i H x H' → Stp [] H H' ∧ ∀ (S' : List Addr) (d : PyData), Mv S S' H1 H → Trk S' H → ds[i]? = some d → Rp K S' H' d x
def IT (X : Cx) (W : Wd) (S : List Addr) (G : List (Addr × MO)) (δ : List Sl) (tg e : Expr) (ds : List PyData) : Prop := ∀ (σ : L2.St) (H : Hp), Ctx X.K W S G δ σ H → ∀ R : It → Hp → Prop, (∀ J H', Ctx X.K W S G δ σ H' → Stp W.M H H' → DWalk X.K S H' J ds → R J H') → IEx X tg e σ H R
section
variable {X : Cx} {W : Wd} {S : List Addr} {G : List (Addr × MO)} {δ δ' δ'' : List Sl} {a b c e tg : Expr} {es : List Expr} {P Pa Pb : PyData → Prop} {pos : Pos} {σ : L2.St} {H H1 : Hp} {D : Ends} {r : List Stmt} {d x y : PyData} {ds l : List PyData} {js ks : List Nat} {m : List (Key × PyData)} {k : Key} {J : It}
theorem dw_tup {K : PySem.W.Frag} {p : Addr} {xs : List V} (ht : TupAt K S H1 p xs) (rs : Rps K S H1 ds xs) : DWalk K S H1 (Itt K p) ds := by
  refine ⟨fun H => SqT K H p xs, YAt xs, by rw [← rs.len]; exact walk_tup, fun H' st => ?_, fun i H x H' hi st yy => ?_⟩
  · rcases ht with ⟨n, e⟩ | ht
    · exact .inl (.inl (st p _ e n))
    · exact .inr ht
  · obtain ⟨rfl, hx⟩ := yy
    refine ⟨.refl, fun S' d m t hd => ?_⟩
    obtain ⟨v, hv, rv⟩ := rs.get hd
    rw [hx] at hv; cases hv
    exact rv.mv m
theorem dw_list {K : PySem.W.Frag} {p : Addr} {xs : List V} (ht : p ∉ S ∧ H1 p = some (.lst xs)) (rs : Rps K S H1 ds xs) : DWalk K S H1 (Itl K p) ds := by
  refine ⟨fun H => SqL K H p xs, YAt xs, by rw [← rs.len]; exact walk_list, fun H' st => .inl (.inl (st p _ ht.2 ht.1)), fun i H x H' hi st yy => ?_⟩
  obtain ⟨rfl, hx⟩ := yy
  refine ⟨.refl, fun S' d m t hd => ?_⟩
  obtain ⟨v, hv, rv⟩ := rs.get hd
  rw [hx] at hv; cases hv
  exact rv.mv m
theorem it_data {y : PyData} (he : DE X W S G δ e (fun z => z = y)) (hy : seqOf y = some ds) : IT X W S G δ tg e ds := fun σ H C R q => by
  cases y with
  | tuple es' =>
    cases hy
    refine IEx.of (pi_tup pee) (he σ H C _ fun v H1 d C1 s1 e1 rv => ?_)
    subst e1
    obtain ⟨p, xs, rfl, ht, rs⟩ := rv
    exact ⟨p, rfl, ⟨xs, ht.sq⟩, q _ H1 C1 s1 (dw_tup ht rs)⟩
  | list es' =>
    cases hy
    refine IEx.of (pi_list pee) (he σ H C _ fun v H1 d C1 s1 e1 rv => ?_)
    subst e1
    obtain ⟨p, xs, rfl, ht, rs⟩ := rv
    exact ⟨p, rfl, ⟨xs, .inl (.inl ht.2)⟩, q _ H1 C1 s1 (dw_list ht rs)⟩
  | _ => cases hy
theorem it_range {n : Nat} {p1 p2 : Pos} (he : DE X W S G δ e (fun z => z = .int (n : Int))) (hn : n ≤ 1000000) (hm : X.mg "range" = none) (hg : Gl X "range" := by rfl) (na : starEach [e] X.env = (false, eval e X.env) :: starEach [] X.env := by exact star_cons rfl) (nb : starEach [e] X.env = [(false, eval e X.env)] := by rfl) :
    IT X W S G δ tg (.Call (.Name "range" p1) [e] [] p2) ((List.range n).map fun i : Nat => PyData.int (i : Int)) := fun σ H C R q => by
  refine IEx.of (pi_range1 hg hm (pa_cons pee pa_nil na) nb) (he σ H C _ fun v H1 d C1 s1 e1 rv => ?_)
  subst e1
  have rv : v = .int (n : Int) := rv
  subst rv
  refine ⟨n, rfl, by omega, by omega, ?_⟩
  have e0 : (n : Int).toNat = n := by omega
  rw [e0]
  refine q _ H1 C1 s1 ⟨fun _ => True, YFn fun i => .int (0 + i), ?_, fun _ _ => True.intro, fun i H x H' hi st yy => ?_⟩
  · rw [List.length_map, List.length_range]; exact walk_range
  · obtain ⟨rfl, rfl⟩ := yy
    refine ⟨.refl, fun S' d m t hd => ?_⟩
    rw [List.length_map, List.length_range] at hi
    rw [List.getElem?_map, List.getElem?_range hi] at hd
    cases hd
    show V.int (0 + (i : Int)) = V.int (i : Int)
    rw [Int.zero_add]
/-! ### for over a walk, its ghosts in γ -/
section
variable {γ : Type} (Gf : γ → List (Addr × MO)) (δf : γ → List Sl) (Pv : Nat → γ → Prop)
abbrev NX (K : PySem.W.Frag) (W : Wd) (S : List Addr) (i : Nat) : L2.St → Hp → Prop := fun σ' H' => ∃ g, Pv i g ∧ Ctx K W S (Gf g) (δf g) σ' H'
theorem ss_forI (g0 : γ) {δt : γ → PyData → List Sl} {body : List Stmt} (C : Ctx X.K W S (Gf g0) (δf g0) σ H) (hi : IT X W S (Gf g0) (δf g0) tg e ds) (p0 : Pv 0 g0)
    (hg : ∀ W' g d, GD X W' S (Gf g) js tg (δf g) d (δt g d))
    (hs : ∀ W' i d g σ' H', W'.M = W.M → ds[i]? = some d → Pv i g → Ctx X.K W' S (Gf g) (δt g d) σ' H' → SS X body { D with nx := NX Gf δf Pv X.K W' S (i + 1), ct := NX Gf δf Pv X.K W' S (i + 1), bk := SS X r D } σ' H')
    (hd : ∀ g σ' H', Pv ds.length g → Ctx X.K W S (Gf g) (δf g) σ' H' → SS X r D σ' H') (hc : X.calm = true) (hp : PassesOwn (model X.prog X.w) X.A X.env X.xe) (hf : ∀ x, foldedSetIterable e X.env x = pure x := by intro _; rfl) : SS X (.For tg e body [] pos :: r) D σ H := by
  refine ss_cons (S1.of (ps_for hp hc pie pge psse hf) (hi σ H C _ fun J H1 C1 s1 ⟨Gd, Y, hw, hG, hY⟩ => ?_))
  have C2 := C1.into
  have hM := C1.atS
  refine for_it hw (NX Gf δf Pv X.K (W.at (Gf g0) H1) S) ⟨g0, p0, C2⟩ (fun i σ' H' _ ⟨g, pv, C'⟩ => hG H' (C'.fr.mono hM)) (fun i x σ' H' H'' hi' ⟨g, pv, C'⟩ yy => ?_) (fun σ' H' ⟨g, pv, C'⟩ => hd g σ' H' pv (C1.outof C'))
  have st : Stp S H1 H' := C'.fr.mono hM
  obtain ⟨s2, hr⟩ := hY i H' x H'' hi' st yy
  have hd' : ds[i]? = some ds[i] := List.getElem?_eq_getElem hi'
  exact hg _ g _ σ' H'' x (C'.ext s2) (hr S _ (fun b o e n => ⟨st b o e n, n⟩) C'.trk hd') _ fun σ2 C2' _ => hs _ i _ g σ2 H'' rfl hd' pv C2'
end
/-! ### dict walks: the dict is locked -/
theorem Ctx.loose (C : Ctx X.K W S G δ σ H) : Ctx X.K ⟨W.M ++ G.map (·.1), fun _ => none, W.M⟩ S G δ σ H :=
  ⟨C.env, C.deal, fun a ha => ⟨(C.ms a ha).1, List.mem_append_left _ ha⟩, fun p hp => by
    obtain ⟨h1, h2, h3, h4⟩ := C.objs p hp
    exact ⟨h1, h2, h3, .inl (List.mem_append_right _ (List.mem_map_of_mem hp))⟩, C.trk, fun b o e n => by cases e⟩
theorem lk_frz {q : Addr} {kvs : List (Key × V)} {od : Obj} (h : H q = some (.dK kvs)) : Lk q kvs H (upd H q (.frz od (.dK kvs))) := ⟨fun b hb => upd_ne hb, .inl h, .inr ⟨od, upd_same⟩⟩
theorem lk_unf {q : Addr} {kvs : List (Key × V)} {od : Obj} (h : H q = some (.frz od (.dK kvs))) : Lk q kvs H (upd H q (.dK kvs)) := ⟨fun b hb => upd_ne hb, .inr ⟨od, h⟩, .inl upd_same⟩
theorem Ctx.lockIn {q : Addr} {kvs : List (Key × V)} {od : Obj} (C : Ctx X.K W S G δ σ H) (hq : q ∉ S) (h : H q = some (.dK kvs)) : Ctx X.K (W.at G (upd H q (.frz od (.dK kvs)))) S G δ σ (upd H q (.frz od (.dK kvs))) :=
  (C.loose.lk (lk_frz (od := od) h) hq (fun o e => by cases e)).into
theorem Ctx.lockOut {q : Addr} {kvs : List (Key × V)} {od : Obj} {G' : List (Addr × MO)} {σ' : L2.St} {H' : Hp} (C : Ctx X.K W S G δ σ H) (hq : q ∉ S) (h : H q = some (.dK kvs)) (C' : Ctx X.K (W.at G (upd H q (.frz od (.dK kvs)))) S G' δ' σ' H') (h' : H' q = some (.frz od (.dK kvs))) : Ctx X.K W S G' δ' σ' (upd H' q (.dK kvs)) := by
  have L := C'.loose.lk (lk_unf h') hq (fun o e => by cases e)
  refine C.outof ⟨L.env, L.deal, C'.ms, fun p hp => ?_, L.trk, fun b o e n => ?_⟩
  · obtain ⟨h1, h2, h3, _⟩ := L.objs p hp
    obtain ⟨_, _, _, h4⟩ := C'.objs p hp
    refine ⟨h1, h2, h3, ?_⟩
    rcases h4 with h4 | h4
    · exact .inl h4
    · refine .inr ?_
      have ne : p.1 ≠ q := fun z => hq (by rw [← z]; exact h2)
      have h4 : upd H q (.frz od (.dK kvs)) p.1 = none := h4
      rw [upd_ne ne] at h4
      exact h4
  · by_cases z : b = q
    · subst z
      have e : H b = some o := e
      rw [h] at e
      cases e
      exact upd_same
    · rw [upd_ne z]
      exact C'.fr b o (by show upd H q _ b = some o; rw [upd_ne z]; exact e) n
theorem Stp.unlock {q : Addr} {kvs : List (Key × V)} {od : Obj} {M : List Addr} {H' : Hp} (h : H q = some (.dK kvs)) (s : Stp M (upd H q (.frz od (.dK kvs))) H') : Stp M H (upd H' q (.dK kvs)) := fun b o e n => by
  by_cases z : b = q
  · subst z
    rw [h] at e; cases e
    exact upd_same
  · rw [upd_ne z]
    exact s b o (by rw [upd_ne z]; exact e) n
theorem dw_keys {K : PySem.W.Frag} {q : Addr} {o : Obj} {kvs : List (Key × V)} (hq : q ∉ S) (h : H1 q = some (.frz o (.dK kvs))) (rk : Rkv K S H1 m kvs) : DWalk K S H1 (Itk q o kvs) (m.map fun p => kD p.1) := by
  refine ⟨fun H => H q = some (.frz o (.dK kvs)), fun i H x H' => H' = H ∧ ∃ k v, kvs[i]? = some (k, v) ∧ x = kV k, by rw [List.length_map, ← rk.len]; exact walk_keys, fun H' st => st q _ h hq, fun i H x H' hi st yy => ?_⟩
  obtain ⟨rfl, k, v, hk, rfl⟩ := yy
  refine ⟨.refl, fun S' d mv t hd => ?_⟩
  obtain ⟨dd, e, _⟩ := rk.at hk
  rw [List.getElem?_map, e] at hd
  cases hd
  exact kD_rp k
theorem dw_vals {K : PySem.W.Frag} {q : Addr} {o : Obj} {kvs : List (Key × V)} (hq : q ∉ S) (h : H1 q = some (.frz o (.dK kvs))) (rk : Rkv K S H1 m kvs) : DWalk K S H1 (Itd q o kvs) (m.map (·.2)) := by
  refine ⟨fun H => H q = some (.frz o (.dK kvs)), fun i H x H' => H' = H ∧ ∃ k, kvs[i]? = some (k, x), by rw [List.length_map, ← rk.len]; exact walk_values, fun H' st => st q _ h hq, fun i H x H' hi st yy => ?_⟩
  obtain ⟨rfl, k, hk⟩ := yy
  refine ⟨.refl, fun S' d mv t hd => ?_⟩
  obtain ⟨dd, e, rd⟩ := rk.at hk
  rw [List.getElem?_map, e] at hd
  cases hd
  exact rd.mv mv
/-- the walk of a locked dict -/
def ITk (X : Cx) (tg e : Expr) (j : Nat) (ds : List (Key × PyData) → List PyData) : Prop := ∀ (W : Wd) (S : List Addr) (G : List (Addr × MO)) (δ : List Sl) (m : List (Key × PyData)) (σ : L2.St) (H : Hp) (q : Addr) (o : Obj) (kvs : List (Key × V)) (R : It → Hp → Prop), Ctx X.K W S G δ σ H → σ[j]? = some (some (.ref q)) → q ∉ S → H q = some (.frz o (.dK kvs)) → Rkv X.K S H m kvs →
  (∀ J, DWalk X.K S H J (ds m) → R J H) → IEx X tg e σ H R
theorem itk_keys (j : Nat) {xn : Str} (hN : X.N[j]? = some xn := by rfl) (hv : Vis X.env.scope xn := by first | exact Or.inl rfl | exact Or.inr (Or.inl rfl) | exact Or.inr (Or.inr rfl)) (h1 : (xn == ("__debug__" : Str)) = false := by decide)
    (h2 : (xn == ("__classdict__" : Str)) = false := by decide) : ITk X tg (.Name xn pos) j (fun m => m.map fun p => kD p.1) := fun W S G δ m σ H q o kvs R C hs hq h rk k =>
  IEx.of (pi_keys (pe_var hN hv h1 h2)) ⟨.ref q, hs, q, o, rfl, .inl ⟨kvs, h, k _ (dw_keys hq h rk)⟩⟩
theorem itk_vals (j : Nat) {xn : Str} {p1 ap cp : Pos} (hN : X.N[j]? = some xn := by rfl) (hv : Vis X.env.scope xn := by first | exact Or.inl rfl | exact Or.inr (Or.inl rfl) | exact Or.inr (Or.inr rfl)) (h1 : (xn == ("__debug__" : Str)) = false := by decide)
    (h2 : (xn == ("__classdict__" : Str)) = false := by decide) (hb : attributeBase (.Name xn p1) "values" X.env (eval (.Name xn p1) X.env) = eval (.Name xn p1) X.env := by rfl) (hl : (ap.endLine == cp.line) = true := by rfl) : ITk X tg (.Call (.Attribute (.Name xn p1) "values" ap) [] [] cp) j (fun m => m.map (·.2)) := fun W S G δ m σ H q o kvs R C hs hq h rk k =>
  IEx.of (pi_values (pe_var hN hv h1 h2) hb hl) ⟨.ref q, hs, q, o, kvs, rfl, h, k _ (dw_vals hq h rk)⟩
theorem slot_dict {K : PySem.W.Frag} {j : Nat} (C : Ctx K W S G δ σ H) (hj : δ[j]? = some (.d (.dict (mD m)))) : ∃ q kvs, σ[j]? = some (some (.ref q)) ∧ q ∉ S ∧ Rd H q (.dK kvs) ∧ Rkv K S H m kvs := by
  obtain ⟨o, e1, v, rfl, rv⟩ := C.env.get hj
  obtain ⟨q, kvs, rfl, h1, h2, h3⟩ := rp_dict rv
  exact ⟨q, kvs, e1, h1, h2, h3⟩
section
variable {γ : Type} (Gf : γ → List (Addr × MO)) (δf : γ → List Sl) (Pv : Nat → γ → Prop)
/-- for over a dict that is data -/
theorem ss_forK (j : Nat) {dsf : List (Key × PyData) → List PyData} (g0 : γ) {δt : γ → PyData → List Sl} {body : List Stmt} (C : Ctx X.K W S (Gf g0) (δf g0) σ H) (hi : ITk X tg e j dsf) (hj : (δf g0)[j]? = some (.d (.dict (mD m)))) (p0 : Pv 0 g0)
    (hg : ∀ W' g d, GD X W' S (Gf g) js tg (δf g) d (δt g d))
    (hs : ∀ (W' : Wd) (D' : Ends) i d g σ' H', W'.M = W.M → (dsf m)[i]? = some d → Pv i g → Ctx X.K W' S (Gf g) (δt g d) σ' H' → SS X body { D' with nx := NX Gf δf Pv X.K W' S (i + 1), ct := NX Gf δf Pv X.K W' S (i + 1) } σ' H')
    (hd : ∀ g σ' H', Pv (dsf m).length g → Ctx X.K W S (Gf g) (δf g) σ' H' → SS X r D σ' H') (hc : X.calm = true) (hp : PassesOwn (model X.prog X.w) X.A X.env X.xe) (hf : ∀ x, foldedSetIterable e X.env x = pure x := by intro _; rfl) : SS X (.For tg e body [] pos :: r) D σ H := by
  obtain ⟨q, kvs, e1, hq, hrd, rk⟩ := slot_dict C hj
  rcases hrd with h | ⟨o, h⟩
  · refine ss_cons (S1.of (ps_lock (ps_for hp hc pie pge psse hf)) ⟨q, .dK kvs, h, True.intro, fun od => ?_⟩)
    have C1 := C.lockIn (od := od) hq h
    refine hi _ S _ _ m σ _ q od kvs _ C1 e1 hq upd_same (rk.lk (lk_frz h)) fun J hw => ?_
    obtain ⟨Gd, Y, hw, hG, hY⟩ := hw
    have hM : ∀ a ∈ (W.at (Gf g0) (upd H q (.frz od (.dK kvs)))).M0, a ∈ S := fun a ha => C.atS a ha
    refine for_it hw (NX Gf δf Pv X.K (W.at (Gf g0) (upd H q (.frz od (.dK kvs)))) S) ⟨g0, p0, C1⟩ (fun i σ' H' _ ⟨g, pv, C'⟩ => hG H' (C'.fr.mono hM)) (fun i x σ' H' H'' hi' ⟨g, pv, C'⟩ yy => ?_) (fun σ' H' ⟨g, pv, C'⟩ => ?_)
    · have st : Stp S (upd H q (.frz od (.dK kvs))) H' := C'.fr.mono hM
      obtain ⟨s2, hr⟩ := hY i H' x H'' hi' st yy
      have hd' : (dsf m)[i]? = some (dsf m)[i] := List.getElem?_eq_getElem hi'
      exact hg _ g _ σ' H'' x (C'.ext s2) (hr S _ (fun b o e n => ⟨st b o e n, n⟩) C'.trk hd') _ fun σ2 C2' _ => hs (W.at (Gf g0) (upd H q (.frz od (.dK kvs)))) { nx := fun _ _ => True, rt := _, bk := _ } i _ g σ2 H'' rfl hd' pv C2'
    · have h' : H' q = some (.frz od (.dK kvs)) := C'.fr q _ upd_same fun z => hq (hM q z)
      exact ⟨h', hd g σ' _ pv (C.lockOut hq h C' h')⟩
  · refine ss_cons (S1.of (ps_for hp hc pie pge psse hf) (hi _ S _ _ m σ _ q o kvs _ C e1 hq h rk fun J hw => ?_))
    obtain ⟨Gd, Y, hw, hG, hY⟩ := hw
    have C2 := C.into
    have hM := C.atS
    refine for_it hw (NX Gf δf Pv X.K (W.at (Gf g0) H) S) ⟨g0, p0, C2⟩ (fun i σ' H' _ ⟨g, pv, C'⟩ => hG H' (C'.fr.mono hM)) (fun i x σ' H' H'' hi' ⟨g, pv, C'⟩ yy => ?_) (fun σ' H' ⟨g, pv, C'⟩ => hd g σ' H' pv (C.outof C'))
    have st : Stp S H H' := C'.fr.mono hM
    obtain ⟨s2, hr⟩ := hY i H' x H'' hi' st yy
    have hd' : (dsf m)[i]? = some (dsf m)[i] := List.getElem?_eq_getElem hi'
    exact hg _ g _ σ' H'' x (C'.ext s2) (hr S _ (fun b o e n => ⟨st b o e n, n⟩) C'.trk hd') _ fun σ2 C2' _ => hs (W.at (Gf g0) H) { nx := fun _ _ => True, rt := _, bk := _ } i _ g σ2 H'' rfl hd' pv C2'
end
end
end Dl
/-! text D10 -/
set_option Elab.async false
set_option linter.all false
set_option maxRecDepth 100000
set_option maxHeartbeats 1000000
namespace Dl
open PySem PySem.Spec PyProof.Rows L2
section
variable {X : Cx} {W : Wd} {S : List Addr} {G : List (Addr × MO)} {δ δ' δ'' : List Sl} {a b c e tg : Expr} {es : List Expr} {P Pa Pb : PyData → Prop} {pos : Pos} {σ : L2.St} {H H1 : Hp} {D : Ends} {r : List Stmt} {d x y : PyData} {ds l : List PyData} {js ks : List Nat} {m : List (Key × PyData)} {k : Key} {J : It}
/-! ### list comprehensions over a walk -/
theorem lc_dw {own : List (Str × Nat)} {scope : Scope} {elt : Expr} {ifs : List Expr} {DA : Addr} {Qd : Hp → Prop} (hw : DWalk X.K S H1 J ds) (C1 : Ctx X.K W S G δ σ H1) (hDA : H1 DA = none) (hlen : ds.length ≤ 999) (hj : ∀ j ∈ js, j ∈ own.map (·.2)) (R : Nat → Option PyData → Prop)
    (ht : ∀ i d acc, DA ∉ S → ds[i]? = some d → LcTurn X scope W (DA :: S) ((DA, .lst acc) :: G) (wipeD δ (own.map (·.2))) tg ifs elt js d (R i))
    (q : ∀ H' es xs, Ctx X.K W S G δ σ H' → Stp (DA :: W.M) (upd H1 DA (.lst [])) H' → H' DA = some (.lst xs) → LcRel R ds.length es → Rps X.K (DA :: S) H' es xs → Qd H') :
    ∃ Wf : Nat → Nat → Hp → Prop, (∃ m, Wf 0 m (upd H1 DA (.lst []))) ∧ ∀ i m H, Wf i m H →
      (J.stop i H ∧ Qd H) ∨ (J.go i H ∧ ∃ Nx : Hp → Prop, (∀ H', Nx H' → ∃ m', m' < m ∧ Wf (i + 1) m' H') ∧ ∀ x H', J.yld i H x H' → bG X scope tg x (wipe σ (own.map (·.2))) H' fun σ2 H2 => wipe σ2 (own.map (·.2)) = wipe σ (own.map (·.2)) ∧ bT X scope ifs σ2 H2 fun b H3 =>
        if b = true then bE X scope elt σ2 H3 fun y H4 => ∃ acc, H4 DA = some (.lst acc) ∧ acc.length < sizeLine ∧ Nx (upd H4 DA (.lst (acc ++ [y]))) else Nx H3) := by
  obtain ⟨Gd, Y, hw, hG, hY⟩ := hw
  have hDS : DA ∉ S := C1.trk.out hDA
  have hnG : ∀ q ∈ G, q.1 ≠ DA := fun q hq z => hDS (by rw [← z]; exact (C1.objs q hq).2.1)
  have C1' : Ctx X.K W (DA :: S) ((DA, .lst []) :: G) δ σ (upd H1 DA (.lst [])) := C1.vol hDA ⟨[], upd_same, rfl⟩
  have toS : ∀ {H' : Hp}, Stp (DA :: W.M) (upd H1 DA (.lst [])) H' → Stp S H1 H' := fun {H'} s b o e n => by
    have hb : b ≠ DA := ne_of_none e hDA
    refine s b o (by rw [upd_ne hb]; exact e) fun z => ?_
    rcases List.mem_cons.mp z with z | z
    · exact hb z
    · exact n (C1.ms b z).1
  refine lc_it hw (fun i H' => ∃ acc, Ctx X.K W (DA :: S) ((DA, .lst acc) :: G) δ σ H' ∧ LcRel R i acc ∧ Stp (DA :: W.M) (upd H1 DA (.lst [])) H') ⟨[], C1', rfl, .refl⟩ (fun i H' _ ⟨acc, C', rel, s⟩ => hG H' (toS s)) (fun i x H' H'' hi ⟨acc, C', rel, s⟩ yy => ?_) (fun H' ⟨acc, C', rel, s'⟩ => ?_)
  · obtain ⟨s2, hr⟩ := hY i H' x H'' hi (toS s) yy
    have hd : ds[i]? = some ds[i] := List.getElem?_eq_getElem hi
    have rd : Rp X.K (DA :: S) H'' ds[i] x := hr (DA :: S) _ (fun b o e n => ⟨toS s b o e n, fun z => by
      rcases List.mem_cons.mp z with z | z
      · rw [z, hDA] at e; cases e
      · exact n z⟩) C'.trk hd
    have hz := rel.len
    exact lc_turn (ht i ds[i] acc hDS hd) hj (C'.ext s2) hnG rd (by omega) (fun H2 C2 s3 r => ⟨acc, C2, .inl ⟨r, rel⟩, (s.trans s2.nil).trans s3⟩) (fun H2 e C2 s3 r => ⟨acc ++ [e], C2, .inr ⟨acc, e, rfl, r, rel⟩, (s.trans s2.nil).trans s3⟩)
  · obtain ⟨⟨ys, hl, rys⟩, _⟩ := C'.objs _ List.mem_cons_self
    have CS : Ctx X.K W S G δ σ H' := C'.drop hDS (fun q hq => (C1.objs q hq).2.1) fun a ha => (C1.ms a ha).1
    exact q H' acc ys CS s' hl rel rys
theorem stp_new {M : List Addr} {DA : Addr} {o : HO} {H' : Hp} (h : H1 DA = none) (s : Stp (DA :: M) (upd H1 DA o) H') : Stp M H1 H' := fun b u e n => by
  have hb : b ≠ DA := ne_of_none e h
  refine s b u (by rw [upd_ne hb]; exact e) fun z => ?_
  rcases List.mem_cons.mp z with z | z
  · exact hb z
  · exact n z
theorem ne_lcI {own : List (Str × Nat)} {scope : Scope} {elt iter : Expr} {ifs : List Expr} (he : IT X W S G δ tg iter ds) (hlen : ds.length ≤ 999) (hj : ∀ j ∈ js, j ∈ own.map (·.2)) (R : Nat → Option PyData → Prop)
    (ht : ∀ i d DA acc, DA ∉ S → ds[i]? = some d → LcTurn X scope W (DA :: S) ((DA, .lst acc) :: G) (wipeD δ (own.map (·.2))) tg ifs elt js d (R i))
    (hc : X.calm = true) (hN : X.N.Nodup) (ok : BlkOk X.N X.env.scope scope own) (hs : ∀ x, foldedSetIterable iter X.env x = pure x := by intro _; rfl) : NE X W S G δ (.ListComp elt [⟨tg, iter, ifs, 0⟩] scope pos) (LcRel R ds.length) := fun σ H C Q q =>
  EE.of (pe_lcB hc hN pie ok hs) (he σ H C _ fun J H1 C1 s1 hw DA hDA => lc_dw hw C1 hDA hlen hj R (fun i d acc => ht i d DA acc) fun H' es xs C' s' hl rel rs => q DA H' es xs C' (s1.trans (stp_new hDA s')) (C.back C1 s1 hDA) hl rel rs)
/-- over a dict that is data -/
theorem ne_lcK {own : List (Str × Nat)} {scope : Scope} {elt iter : Expr} {ifs : List Expr} (j : Nat) {dsf : List (Key × PyData) → List PyData} (hi : ITk X tg iter j dsf) (hjd : δ[j]? = some (.d (.dict (mD m)))) (hlen : (dsf m).length ≤ 999) (hj : ∀ j ∈ js, j ∈ own.map (·.2)) (R : Nat → Option PyData → Prop)
    (ht : ∀ W' i d DA acc, W'.M = W.M → DA ∉ S → (dsf m)[i]? = some d → LcTurn X scope W' (DA :: S) ((DA, .lst acc) :: G) (wipeD δ (own.map (·.2))) tg ifs elt js d (R i))
    (hc : X.calm = true) (hN : X.N.Nodup) (ok : BlkOk X.N X.env.scope scope own) (hs : ∀ x, foldedSetIterable iter X.env x = pure x := by intro _; rfl) : NE X W S G δ (.ListComp elt [⟨tg, iter, ifs, 0⟩] scope pos) (LcRel R (dsf m).length) := fun σ H C Q q => by
  obtain ⟨p, kvs, e1, hq, hrd, rk⟩ := slot_dict C hjd
  rcases hrd with h | ⟨o, h⟩
  · refine EE.of (pe_lock (pe_lcB hc hN pie ok hs)) ⟨p, .dK kvs, h, True.intro, fun od => ?_⟩
    have C1 := C.lockIn (od := od) hq h
    refine hi _ S _ _ m σ _ p od kvs _ C1 e1 hq upd_same (rk.lk (lk_frz h)) fun J hw DA hDA => ?_
    refine lc_dw hw C1 hDA hlen hj R (fun i d acc => ht (W.at G (upd H p (.frz od (.dK kvs)))) i d DA acc rfl) fun H' es xs C' s' hl rel rs => ?_
    have h' : H' p = some (.frz od (.dK kvs)) := C'.fr p _ upd_same fun z => hq (C.atS p z)
    have s2 : Stp W.M (upd H p (.frz od (.dK kvs))) H' := stp_new hDA s'
    have nD : DA ≠ p := fun z => by rw [z, upd_same] at hDA; cases hDA
    refine ⟨h', q DA _ es xs (C.lockOut hq h C' h') (s2.unlock h) ?_ (by rw [upd_ne nD]; exact hl) rel (Rps.lk (lk_unf h') rs)⟩
    rw [upd_ne nD] at hDA
    exact hDA
  · refine EE.of (pe_lcB hc hN pie ok hs) (hi _ S _ _ m σ _ p o kvs _ C e1 hq h rk fun J hw DA hDA => ?_)
    exact lc_dw hw C hDA hlen hj R (fun i d acc => ht W i d DA acc rfl) fun H' es xs C' s' hl rel rs => q DA H' es xs C' (stp_new hDA s') hDA hl rel rs
/-! ### new dicts -/
def ND (X : Cx) (W : Wd) (S : List Addr) (G : List (Addr × MO)) (δ : List Sl) (e : Expr) (P : List (Key × PyData) → Prop) : Prop := ∀ (σ : L2.St) (H : Hp), Ctx X.K W S G δ σ H → ∀ Q : VK, (∀ p H' m kvs, Ctx X.K W S G δ σ H' → Stp W.M H H' → H p = none → H' p = some (.dK kvs) → P m → Rkv X.K (p :: S) H' m kvs → Q (.ref p) H') → EE X e σ H Q
theorem ND.de {Pm : List (Key × PyData) → Prop} (h : ND X W S G δ e Pm) : DE X W S G δ e (fun d => ∃ m, d = .dict (mD m) ∧ Pm m) := fun σ H C Q q => h σ H C _ fun p H' m kvs C' st hp hl pd r =>
  q _ H' (.dict (mD m)) C' st ⟨m, rfl, pd⟩ ⟨p, kvs, rfl, ⟨C.trk.out hp, .inl hl⟩, (r.mv (Mv.sub fun x hx => List.mem_cons_of_mem _ hx)).rpm⟩
theorem ND.imp {Pm Pm' : List (Key × PyData) → Prop} (h : ND X W S G δ e Pm) (i : ∀ d, Pm d → Pm' d) : ND X W S G δ e Pm' := fun σ H C Q q => h σ H C Q fun p H' ds xs C' st hp hl pd r => q p H' ds xs C' st hp hl (i ds pd) r
theorem nd_new : ND X W S G δ (.Dict [] [] pos) (fun m => m = []) := fun σ H C Q q => EE.of pe_dnewK fun p hp => by
  have st : Stp [] H (upd H p (.dK [])) := Stp.new hp
  exact q p _ [] [] (C.ext st) st.nil hp upd_same rfl rfl
/-- a new object, taken up -/
theorem Ctx.adopt1 {H' : Hp} {p : Addr} {mo : MO} (C : Ctx X.K W S G δ σ H) (C' : Ctx X.K W S G δ σ H') (s : Stp W.M H H') (hp : H p = none) (hx : Obj1 X.K (p :: S) H' p mo) : Ctx X.K W (p :: S) ((p, mo) :: G) δ σ H' := C.adopt C' s hp hx
theorem ss_setD (i : Nat) {x : Str} {p : Pos} {Pm : List (Key × PyData) → Prop} (C : Ctx X.K W S G δ σ H) (he : ND X W S G δ e Pm) (k : ∀ q m σ' H', q ∉ S → Ctx X.K W (q :: S) ((q, .dct m) :: G) (δ.set i (.v (.ref q))) σ' H' → Stp W.M H H' → Pm m → SS X r D σ' H')
    (hN : X.N.Nodup) (hi : X.N[i]? = some x := by rfl) (hx : Loc X.env.scope x := by first | exact Or.inl rfl | exact Or.inr rfl) (hs : swapsWith e (some (.Name x p)) pos.line X.env = pure false := by rfl) (hf : X.fn x = true ∨ X.env.scope.names.lookup x = some .local := by first | exact .inl rfl | exact .inr rfl | assumption) :
    SS X (.Assign [.Name x p] e pos :: r) D σ H := ss_cons (S1.of (ps_set hN hi hx pee hs hf) (he σ H C _ fun q H' m kvs C' st hq hl pd rs => k q m _ H' (C.trk.out hq) ((C.adopt (x := .dct m) C' st hq ⟨kvs, hl, rs⟩).set i rfl) st pd))
/-- d[k] = e, d a dict that changes -/
theorem ss_dput (i : Nat) {xn : Str} {p : Addr} {p1 p2 : Pos} {kx : Expr} (hu : X.A.units + 1 < cLine) (C : Ctx X.K W S ((p, .dct m) :: G) δ σ H) (hd : δ[i]? = some (.v (.ref p))) (hz : m.length ≤ 1000) (hn : ∀ q ∈ G, q.1 ≠ p) (he : DE X W S ((p, .dct m) :: G) δ e P) (hk : DE X W S ((p, .dct m) :: G) δ kx (fun z => z = kD k))
    (q : ∀ d σ' H', Ctx X.K W S ((p, .dct (dpt m k d)) :: G) δ σ' H' → Stp (p :: W.M) H H' → P d → SS X r D σ' H')
    (hN : X.N[i]? = some xn := by rfl) (hv : Vis X.env.scope xn := by first | exact Or.inl rfl | exact Or.inr (Or.inl rfl) | exact Or.inr (Or.inr rfl)) (h1 : (xn == ("__debug__" : Str)) = false := by decide)
    (h2 : (xn == ("__classdict__" : Str)) = false := by decide) (hs : swapsWith e (some (.Subscript (.Name xn p1) kx p2)) pos.line X.env = pure false := by rfl) : SS X (.Assign [.Subscript (.Name xn p1) kx p2] e pos :: r) D σ H := by
  refine ss_cons (S1.of (ps_dput hu pee pee pee hs) (he σ H C _ fun v H1 d C1 s1 pd rv => ev_v i C1 hd (hk σ H1 C1 _ (fun w H2 dk C2 s2 ek rw' => ?_)) hN hv h1 h2))
  subst ek
  obtain ⟨⟨kvs, hl, rk⟩, haS, haM, _⟩ := C2.objs _ List.mem_cons_self
  have m' : Mv S S H2 (upd H2 p (.dK (putK kvs k v))) := fun b u e n => ⟨by rw [upd_ne (fun z => n (by rw [z]; exact haS))]; exact e, n⟩
  refine ⟨p, _, rfl, .inl ⟨kvs, k, hl, kD_v rw', by rw [rk.len]; exact small1000 hz, rfl⟩, ?_⟩
  refine q d σ _ (C2.wr (y := .dct (dpt m k d)) List.mem_cons_self (fun z hz => ?_) ⟨putK kvs k v, upd_same, (rk.put k (C1.mv s2 rv)).mv m'⟩) (((s1.trans s2).mono fun x hx => List.mem_cons_of_mem _ hx).trans (Stp.wr List.mem_cons_self)) pd
  rcases List.mem_cons.mp hz with e | hz
  · exact .inl e
  · exact .inr ⟨List.mem_cons_of_mem _ hz, hn z hz⟩
/-- a dict that changed is data from now on -/
theorem Ctx.frzD {p : Addr} (C : Ctx X.K W (p :: S) ((p, .dct m) :: G) δ σ H) (hp : p ∉ S) : Rp X.K S H (.dict (mD m)) (.ref p) := by
  obtain ⟨⟨kvs, e, r⟩, _⟩ := C.objs _ List.mem_cons_self
  exact ⟨p, kvs, rfl, ⟨hp, .inl e⟩, (r.mv (Mv.sub fun x hx => List.mem_cons_of_mem _ hx)).rpm⟩
/-! ### dict comprehensions -/
def DcTurn (X : Cx) (scope : Scope) (W : Wd) (S : List Addr) (G : List (Addr × MO)) (δ : List Sl) (tg : Expr) (ifs : List Expr) (kx vx : Expr) (js : List Nat) (d : PyData) (o : Option (Key × PyData)) : Prop :=
  ∃ δ' t, (∀ s H C cl fp, GD (blkX X scope s H C cl fp) W S G js tg δ d δ') ∧ (∀ s H C cl fp, BEs (blkX X scope s H C cl fp) W S G δ' ifs (fun b => b = t)) ∧ (t = true → ∃ k v, o = some (k, v) ∧ (∀ s H C cl fp, DE (blkX X scope s H C cl fp) W S G δ' kx (fun z => z = kD k)) ∧ ∀ s H C cl fp, DE (blkX X scope s H C cl fp) W S G δ' vx (fun z => z = v)) ∧ (t = false → o = none)
theorem pe_dcB {kx vx iter : Expr} {ifs : List Expr} {scope : Scope} {own : List (Str × Nat)} {wi : TI} (hc : X.calm = true) (hN : X.N.Nodup) (hi : PI X tg iter wi) (ok : BlkOk X.N X.env.scope scope own) (hs : ∀ x, foldedSetIterable iter X.env x = pure x := by intro _; rfl) :
    PE X (.DictComp kx vx [⟨tg, iter, ifs, 0⟩] scope pos) (tDc wi (bG X scope tg) (bT X scope ifs) (bE X scope kx) (bE X scope vx) (own.map (·.2))) :=
  pe_dc hc hN hi ok (fun s H C cl fp => ⟨fun pins s' σ H' v u Q I r h => h s H C cl fp pins s' u I r⟩) (fun s H C cl fp => ⟨fun pins s' σ H' Q I h => h s H C cl fp pins s' I⟩) (fun s H C cl fp => ⟨fun pins s' σ H' Q I h => h s H C cl fp pins s' I⟩) (fun s H C cl fp => ⟨fun pins s' σ H' Q I h => h s H C cl fp pins s' I⟩) hs
theorem dmk_len : ∀ l : List (Key × PyData), (dmk l).length ≤ l.length := by
  intro l
  have h : ∀ (l m : List (Key × PyData)), (l.foldl (fun m p => dpt m p.1 p.2) m).length ≤ m.length + l.length := by
    intro l
    induction l with
    | nil => intro m; exact Nat.le_refl _
    | cons p l ih =>
      intro m
      have := ih (dpt m p.1 p.2)
      have := dpt_len m p.1 p.2
      rw [List.foldl_cons, List.length_cons]
      omega
  have := h l []
  rw [List.length_nil, Nat.zero_add] at this
  exact this
theorem dc_it {n : Nat} {Gd : Hp → Prop} {Y : Nat → Hp → V → Hp → Prop} (w : Walk J n Gd Y) {g : TG} {tt : TT} {tk tv : TE} {vs : List Nat} {DA : Addr} {Qd : Hp → Prop} (Pv : Nat → Hp → Prop) (h0 : Pv 0 (upd H1 DA (.dK []))) (hG : ∀ i H, i ≤ n → Pv i H → Gd H)
    (hs : ∀ i x H H', i < n → Pv i H → Y i H x H' → g x (wipe σ vs) H' fun σ2 H2 => wipe σ2 vs = wipe σ vs ∧ tt σ2 H2 fun b H3 =>
      if b = true then tk σ2 H3 fun y H4 => tv σ2 H4 fun z H5 => ∃ kvs k, y = kV k ∧ H5 DA = some (.dK kvs) ∧ kvs.length < sizeLine ∧ Pv (i + 1) (upd H5 DA (.dK (putK kvs k z))) else Pv (i + 1) H3) (hd : ∀ H, Pv n H → Qd H) :
    ∃ W : Nat → Nat → Hp → Prop, (∃ m, W 0 m (upd H1 DA (.dK []))) ∧ ∀ i m H, W i m H →
      (J.stop i H ∧ Qd H) ∨ (J.go i H ∧ ∃ Nx : Hp → Prop, (∀ H', Nx H' → ∃ m', m' < m ∧ W (i + 1) m' H') ∧ ∀ x H', J.yld i H x H' → g x (wipe σ vs) H' fun σ2 H2 => wipe σ2 vs = wipe σ vs ∧ tt σ2 H2 fun b H3 =>
        if b = true then tk σ2 H3 fun y H4 => tv σ2 H4 fun z H5 => ∃ kvs k, y = kV k ∧ H5 DA = some (.dK kvs) ∧ kvs.length < sizeLine ∧ Nx (upd H5 DA (.dK (putK kvs k z))) else Nx H3) := by
  refine ⟨fun i m H => m = n - i ∧ i ≤ n ∧ Pv i H, ⟨n, by simp, Nat.zero_le _, h0⟩, ?_⟩
  rintro i m H ⟨rfl, hi, p⟩
  have q := hG i H hi p
  by_cases hlt : i < n
  · exact .inr ⟨w.goes i H hlt q, Pv (i + 1), fun H' p' => ⟨n - (i + 1), by omega, rfl, hlt, p'⟩, fun x H' y => hs i x H H' hlt p (w.yields i H x H' hlt q y)⟩
  · have e : i = n := by omega
    subst e
    exact .inl ⟨w.stops H q, hd H p⟩
theorem nd_dcI {own : List (Str × Nat)} {scope : Scope} {kx vx iter : Expr} {ifs : List Expr} (f : PyData → Option (Key × PyData)) (he : IT X W S G δ tg iter ds) (hlen : ds.length ≤ 999) (hj : ∀ j ∈ js, j ∈ own.map (·.2))
    (ht : ∀ (i : Nat) (d : PyData) (DA : Addr) (m : List (Key × PyData)), DA ∉ S → ds[i]? = some d → DcTurn X scope W (DA :: S) ((DA, .dct m) :: G) (wipeD δ (own.map (·.2))) tg ifs kx vx js d (f d))
    (hc : X.calm = true) (hN : X.N.Nodup) (ok : BlkOk X.N X.env.scope scope own) (hs : ∀ x, foldedSetIterable iter X.env x = pure x := by intro _; rfl) : ND X W S G δ (.DictComp kx vx [⟨tg, iter, ifs, 0⟩] scope pos) (fun m => m = dmk (ds.filterMap f)) := fun σ H C Q q => by
  refine EE.of (pe_dcB hc hN pie ok hs) (he σ H C _ fun J H1 C1 s1 hw DA hDA => ?_)
  obtain ⟨Gd, Y, hw, hG, hY⟩ := hw
  have hDS : DA ∉ S := C1.trk.out hDA
  have hnG : ∀ q ∈ G, q.1 ≠ DA := fun q hq z => hDS (by rw [← z]; exact (C1.objs q hq).2.1)
  have C1' : Ctx X.K W (DA :: S) ((DA, .dct []) :: G) δ σ (upd H1 DA (.dK [])) := C1.vol hDA ⟨[], upd_same, rfl⟩
  have toS : ∀ {H' : Hp}, Stp (DA :: W.M) (upd H1 DA (.dK [])) H' → Stp S H1 H' := fun {H'} s b o e n => by
    have hb : b ≠ DA := ne_of_none e hDA
    refine s b o (by rw [upd_ne hb]; exact e) fun z => ?_
    rcases List.mem_cons.mp z with z | z
    · exact hb z
    · exact n (C1.ms b z).1
  refine dc_it hw (fun i H' => Ctx X.K W (DA :: S) ((DA, .dct (dmk ((ds.take i).filterMap f))) :: G) δ σ H' ∧ Stp (DA :: W.M) (upd H1 DA (.dK [])) H') ⟨C1', .refl⟩ (fun i H' _ ⟨C', s⟩ => hG H' (toS s)) (fun i x H' H'' hi ⟨C', s⟩ yy => ?_) (fun H' ⟨C', s'⟩ => ?_)
  · obtain ⟨s2, hr⟩ := hY i H' x H'' hi (toS s) yy
    have hd : ds[i]? = some ds[i] := List.getElem?_eq_getElem hi
    have rd : Rp X.K (DA :: S) H'' ds[i] x := hr (DA :: S) _ (fun b o e n => ⟨toS s b o e n, fun z => by
      rcases List.mem_cons.mp z with z | z
      · rw [z, hDA] at e; cases e
      · exact n z⟩) C'.trk hd
    have hnext : (ds.take (i + 1)).filterMap f = (ds.take i).filterMap f ++ (f ds[i]).toList := by
      rw [List.take_add_one, hd, List.filterMap_append]
      cases e : f ds[i] <;> simp [e]
    have hml : ((ds.take i).filterMap f).length ≤ 999 := by
      have h1 := List.length_filterMap_le f (ds.take i)
      have h2 := List.length_take_le i ds
      omega
    generalize hacc : (ds.take i).filterMap f = acc at *
    obtain ⟨δ1, t, g1, g2, g3, g4⟩ := ht i ds[i] DA (dmk acc) hDS hd
    have C2 := C'.ext s2
    have Cw : Ctx X.K W (DA :: S) ((DA, .dct (dmk acc)) :: G) (wipeD δ (own.map (·.2))) (wipe σ (own.map (·.2))) H'' := ⟨C2.env.wipe _, C2.deal, C2.ms, C2.objs, C2.trk, C2.fr⟩
    intro s0 HZ Cb cl fp
    refine g1 s0 HZ Cb cl fp _ H'' x Cw rd _ fun σ2 C3 w2 => ⟨?_, fun s0 HZ Cb cl fp => ?_⟩
    · rw [w2 _ hj, wipe_wipe]
    have out : ∀ {H3 : Hp}, Ctx X.K W (DA :: S) ((DA, .dct (dmk acc)) :: G) δ1 σ2 H3 → Stp W.M H'' H3 → Ctx X.K W (DA :: S) ((DA, .dct (dmk acc)) :: G) δ σ H3 := fun {H3} C3 st => ⟨C2.env.mv (st.mv fun x hx => (C2.ms x hx).1), C3.deal, C3.ms, C3.objs, C3.trk, C3.fr⟩
    refine g2 s0 HZ Cb cl fp σ2 H'' C3 _ fun b H3 C4 s3 pb => ?_
    have sb : Stp (DA :: W.M) (upd H1 DA (.dK [])) H3 := (s.trans s2.nil).trans (s3.mono fun x hx => List.mem_cons_of_mem _ hx)
    subst pb
    cases b with
    | false =>
      refine iteF ⟨?_, sb⟩
      rw [hnext, g4 rfl]
      simp only [Option.toList, List.append_nil]
      exact out C4 s3
    | true =>
      obtain ⟨k, v, eo, hk, hv⟩ := g3 rfl
      refine iteT fun s0 HZ Cb cl fp => hk s0 HZ Cb cl fp σ2 H3 C4 _ fun u H4 du C5 s4 e4 r4 => ?_
      intro s0 HZ Cb cl fp
      refine hv s0 HZ Cb cl fp σ2 H4 C5 _ fun w H5 dw C6 s5 e5 r5 => ?_
      subst e4 e5
      have C6' := out C6 ((s3.trans s4).trans s5)
      obtain ⟨⟨kvs, hl, rk⟩, haS, haM, _⟩ := C6'.objs _ List.mem_cons_self
      have hml2 := dmk_len acc
      refine ⟨kvs, k, kD_v r4, hl, by rw [rk.len]; exact small1000 (by omega), ?_, ?_⟩
      · rw [hnext, eo]
        simp only [Option.toList]
        rw [dmk_snoc]
        have m' : Mv (DA :: S) (DA :: S) H5 (upd H5 DA (.dK (putK kvs k w))) := fun b u e n => ⟨by rw [upd_ne (fun z => n (by rw [z]; exact List.mem_cons_self))]; exact e, n⟩
        refine C6'.wr (y := .dct (dpt (dmk acc) k dw)) List.mem_cons_self (fun z hz => ?_) ⟨putK kvs k w, upd_same, (rk.put k r5).mv m'⟩
        rcases List.mem_cons.mp hz with z' | hz
        · exact .inl z'
        · exact .inr ⟨List.mem_cons_of_mem _ hz, hnG z hz⟩
      · exact (sb.trans ((s4.trans s5).mono fun x hx => List.mem_cons_of_mem _ hx)).trans (Stp.wr List.mem_cons_self)
  · obtain ⟨⟨ys, hl, rys⟩, _⟩ := C'.objs _ List.mem_cons_self
    have CS : Ctx X.K W S G δ σ H' := C'.drop hDS (fun q hq => (C1.objs q hq).2.1) fun a ha => (C1.ms a ha).1
    rw [List.take_length] at rys
    exact q DA H' _ ys CS (s1.trans (stp_new hDA s')) (C.back C1 s1 hDA) hl rfl rys
end
end Dl
/-! text D11 -/
set_option Elab.async false
set_option linter.all false
set_option maxRecDepth 100000
set_option maxHeartbeats 1000000
namespace Dl
open PySem PySem.Spec PyProof.Rows L2
section
variable {X : Cx} {W : Wd} {S : List Addr} {G : List (Addr × MO)} {δ δ' δ'' : List Sl} {a b c e tg : Expr} {es : List Expr} {P Pa Pb : PyData → Prop} {pos : Pos} {σ : L2.St} {H H1 : Hp} {D : Ends} {r : List Stmt} {d x y : PyData} {ds l : List PyData} {js ks : List Nat} {m : List (Key × PyData)} {k : Key} {J : It} {S0 : List Addr}
/-! ### calls of built-ins with one argument -/
theorem call_lenRd : CallR X (.builtin "len") (fun xs H Q => ∃ a kvs, xs = [V.ref a] ∧ Rd H a (.dK kvs) ∧ Q (.int kvs.length) H) := by
  intro pins s σ H xs us Q I r q
  obtain ⟨a, kvs, ex, hd, q⟩ := q
  subst ex
  obtain ⟨u, eu, rx⟩ := vals1 r
  subst eu
  obtain rfl : u = Value.ref a := rx
  exact d_len I hd fun t s' I' => ⟨.int kvs.length, H, I', ⟨t, rfl⟩, q⟩
theorem de_lenD {p : Pos} (hm : X.mg "len" = none) (ha : DR X W S G δ e (fun z => z = .dict (mD m))) (hg : Gl X "len" := by rfl) (na : starEach [e] X.env = (false, eval e X.env) :: starEach [] X.env := by exact star_cons rfl) : DE X W S G δ (.Call (.Name "len" p) [e] [] pos) (fun z => z = .int m.length) := fun σ H C Q q =>
  EE.of (pe_callB call_lenRd hg hm PySem.boot_len (pa_cons pee pa_nil na) (he := na)) (ha σ H C _ fun v H1 d C1 s1 e1 rv => by
    subst e1
    obtain ⟨p, kvs, rfl, hp, hrd, rk⟩ := rp_dict rv
    exact ⟨p, kvs, rfl, hrd, q _ H1 (.int kvs.length) C1 s1 (by rw [rk.len]) rfl⟩)
theorem ne_listD {p : Pos} (hc : X.calm = true) (hm : X.mg "list" = none) (ha : DR X W S G δ e (fun z => z = .dict (mD m))) (hg : Gl X "list" := by rfl) (na : starEach [e] X.env = (false, eval e X.env) :: starEach [] X.env := by exact star_cons rfl) : NE X W S G δ (.Call (.Name "list" p) [e] [] pos) (fun es => es = m.map fun p => kD p.1) := fun σ H C Q q =>
  EE.of (pe_callTy (call_listD hc) hg hm (by decide +kernel) (pa_cons pee pa_nil na) (he := na)) (ha σ H C _ fun v H1 d C1 s1 e1 rv => by
    subst e1
    obtain ⟨p, kvs, rfl, hp, hrd, rk⟩ := rp_dict rv
    refine ⟨p, kvs, rfl, hrd, fun l hl => ?_⟩
    have st : Stp [] H1 (upd H1 l (.lst (kvs.map fun kv => kV kv.1))) := Stp.new hl
    refine q l _ _ _ (C1.ext st) (s1.trans st.nil) (C.back C1 s1 hl) upd_same rfl (mv_new hl ?_)
    have keys : ∀ (m : List (Key × PyData)) (ks : List (Key × V)), Rkv X.K [] H1 m ks → Rps X.K S H1 (m.map fun p => kD p.1) (ks.map fun kv => kV kv.1) := by
      intro m
      induction m with
      | nil => intro ks h; have h : ks = [] := h; rw [h]; rfl
      | cons p m ih =>
        rintro ks ⟨v, r, rfl, h1, h2⟩
        exact ⟨kV p.1, _, rfl, kD_rp p.1, ih r h2⟩
    exact keys m kvs rk)
theorem de_sum {p : Pos} {Pn : List Int → Prop} (hc : X.calm = true) (hm : X.mg "sum" = none) (ha : DE X W S G δ e (fun z => ∃ ns : List Int, z = .list (ns.map .int) ∧ Pn ns)) (hg : Gl X "sum" := by rfl) (na : starEach [e] X.env = (false, eval e X.env) :: starEach [] X.env := by exact star_cons rfl) : DE X W S G δ (.Call (.Name "sum" p) [e] [] pos) (fun z => ∃ ns : List Int, z = .int ns.sum ∧ Pn ns) := fun σ H C Q q =>
  EE.of (pe_callB (cr_sum hc) hg hm PyProof.Rows.boot_sum (pa_cons pee pa_nil na) (he := na)) (ha σ H C _ fun v H1 d C1 s1 ⟨ns, e1, pn⟩ rv => by
    subst e1
    obtain ⟨p, xs, rfl, ⟨h1, h2⟩, rs⟩ := rv
    rw [rs.ints] at h2
    exact ⟨p, ns, rfl, .inl (.inl h2), q _ H1 (.int ns.sum) C1 s1 ⟨ns, rfl, pn⟩ rfl⟩)
theorem de_max {p : Pos} {Pn : List Int → Prop} (hc : X.calm = true) (hm : X.mg "max" = none) (ha : DE X W S G δ e (fun z => ∃ ns : List Int, z = .list (ns.map .int) ∧ Pn ns)) (hne : ∀ ns, Pn ns → 0 < ns.length) (hg : Gl X "max" := by rfl) (na : starEach [e] X.env = (false, eval e X.env) :: starEach [] X.env := by exact star_cons rfl) :
    DE X W S G δ (.Call (.Name "max" p) [e] [] pos) (fun z => ∃ ns i, z = .int i ∧ Pn ns ∧ i ∈ ns ∧ ∀ j ∈ ns, j ≤ i) := fun σ H C Q q =>
  EE.of (pe_callB (cr_max hc) hg hm PyProof.Rows.boot_max (pa_cons pee pa_nil na) (he := na)) (ha σ H C _ fun v H1 d C1 s1 ⟨ns, e1, pn⟩ rv => by
    subst e1
    obtain ⟨p, xs, rfl, ⟨h1, h2⟩, rs⟩ := rv
    rw [rs.ints] at h2
    exact ⟨p, ns, rfl, .inl (.inl h2), hne ns pn, fun i hi hj => q _ H1 (.int i) C1 s1 ⟨ns, i, rfl, pn, hi, hj⟩ rfl⟩)
/-- sorted(d), its keys ints -/
theorem ne_sortedD {p : Pos} {ks : List Int} (hc : X.calm = true) (hm : X.mg "sorted" = none) (ha : DR X W S G δ e (fun z => ∃ m : List (Key × PyData), z = .dict (mD m) ∧ m.map (·.1) = ks.map Sum.inl ∧ ks.length < 64)) (hg : Gl X "sorted" := by rfl) (na : starEach [e] X.env = (false, eval e X.env) :: starEach [] X.env := by exact star_cons rfl) :
    NE X W S G δ (.Call (.Name "sorted" p) [e] [] pos) (fun es => ∃ ys : List Int, es = ys.map .int ∧ ys.Perm ks ∧ ys.Pairwise (· ≤ ·)) := fun σ H C Q q =>
  EE.of (pe_callB (call_sortedDI hc) hg hm PyProof.Rows.boot_sorted (pa_cons pee pa_nil na) (he := na)) (ha σ H C _ fun v H1 d C1 s1 ⟨m, e1, hk, hl⟩ rv => by
    subst e1
    obtain ⟨p, kvs, rfl, hp, hrd, rk⟩ := rp_dict rv
    refine ⟨p, kvs, ks, rfl, hrd, by rw [rk.keys, hk], hl, fun ys l h1 h2 hl => ?_⟩
    have st : Stp [] H1 (upd H1 l (.lst (ys.map V.int))) := Stp.new hl
    exact q l _ _ _ (C1.ext st) (s1.trans st.nil) (C.back C1 s1 hl) upd_same ⟨ys, rfl, h1, h2⟩ (mv_new hl (Rps.of_ints ys)))
/-- a + b, lists -/
theorem ne_cat {Pl Pr : List PyData → Prop} (ha : DE X W S G δ a (fun z => ∃ l, z = .list l ∧ Pl l)) (hb : DE X W S G δ b (fun z => ∃ l, z = .list l ∧ Pr l)) (hz : ∀ l r, Pl l → Pr r → l.length + r.length ≤ 1000) : NE X W S G δ (.BinOp a .Add b pos) (fun es => ∃ l r, es = l ++ r ∧ Pl l ∧ Pr r) := fun σ H C Q q =>
  EE.of (pe_op op_cat pee pee) (ha σ H C _ fun u H1 da C1 s1 ⟨l1, e1, p1⟩ ra => hb σ H1 C1 _ fun w H2 db C2 s2 ⟨l2, e2, p2⟩ rb => by
    subst e1 e2
    obtain ⟨p, xs, rfl, h1, r1⟩ := C1.mv s2 ra
    obtain ⟨p2, ys, rfl, h2, r2⟩ := rb
    refine ⟨p, p2, xs, ys, rfl, rfl, h1.2, h2.2, by rw [r1.len, r2.len]; exact Nat.le_of_lt (small1000 (hz _ _ p1 (by assumption))), fun l hl => ?_⟩
    have st : Stp [] H2 (upd H2 l (.lst (xs ++ ys))) := Stp.new hl
    exact q l _ _ _ (C2.ext st) ((s1.trans s2).trans st.nil) (C.back C2 (s1.trans s2) hl) upd_same ⟨l1, l2, rfl, p1, by assumption⟩ (mv_new hl (r1.app r2)))
/-- list(range(..)) -/
theorem ne_listRg1 {p p1 p2 : Pos} {n : Nat} (hc : X.calm = true) (hm : X.mg "list" = none) (hr : X.mg "range" = none) (ha : DE X W S G δ e (fun z => z = .int (n : Int))) (hn : n ≤ 1000) (hg : Gl X "list" := by rfl) (hg2 : Gl X "range" := by rfl) (na : starEach [e] X.env = (false, eval e X.env) :: starEach [] X.env := by exact star_cons rfl)
    (nb : starEach [.Call (.Name "range" p1) [e] [] p2] X.env = (false, eval (.Call (.Name "range" p1) [e] [] p2) X.env) :: starEach [] X.env := by exact star_cons rfl) : NE X W S G δ (.Call (.Name "list" p) [.Call (.Name "range" p1) [e] [] p2] [] pos) (fun es => es = (List.range n).map fun i : Nat => PyData.int (i : Int)) := fun σ H C Q q =>
  EE.of (pe_listRg hc hg hm (prg_1 hg2 hr pee na) nb) (ha σ H C _ fun v H1 d C1 s1 e1 rv => by
    subst e1
    have rv : v = .int (n : Int) := rv
    refine ⟨n, rv, ⟨by omega, by omega, by omega, by omega, by omega⟩, fun l hl => ?_⟩
    have e0 : rgV 0 (n : Int) = (((List.range n).map fun i : Nat => (i : Int)).map V.int) := by
      unfold rgV
      rw [List.map_map]
      have : ((n : Int) - 0).toNat = n := by omega
      rw [this]
      exact List.map_congr_left fun i _ => by show V.int (0 + (i : Int)) = V.int (i : Int); rw [Int.zero_add]
    have st : Stp [] H1 (upd H1 l (.lst (rgV 0 (n : Int)))) := Stp.new hl
    refine q l _ _ _ (C1.ext st) (s1.trans st.nil) (C.back C1 s1 hl) upd_same rfl (mv_new hl ?_)
    rw [e0, ← show ((List.range n).map fun i : Nat => (i : Int)).map PyData.int = (List.range n).map (fun i : Nat => PyData.int (i : Int)) from by rw [List.map_map]; rfl]
    exact Rps.of_ints _)
theorem ne_listRg2 {p p1 p2 : Pos} {i : Int} {n : Nat} (hc : X.calm = true) (hm : X.mg "list" = none) (hr : X.mg "range" = none) (ha : DE X W S G δ a (fun z => z = .int i)) (hb : DE X W S G δ b (fun z => z = .int (i + n))) (hi0 : 0 ≤ i) (hi : i ≤ 1000) (hn : n ≤ 1000) (hg : Gl X "list" := by rfl) (hg2 : Gl X "range" := by rfl) (na : starEach [a, b] X.env = (false, eval a X.env) :: starEach [b] X.env := by exact star_cons rfl) (na2 : starEach [b] X.env = (false, eval b X.env) :: starEach [] X.env := by exact star_cons rfl) (hpp : (backTo p2 (starEach [b] X.env)).any (·.1) = false := by exact back_plain rfl)
    (nb : starEach [.Call (.Name "range" p1) [a, b] [] p2] X.env = (false, eval (.Call (.Name "range" p1) [a, b] [] p2) X.env) :: starEach [] X.env := by exact star_cons rfl) : NE X W S G δ (.Call (.Name "list" p) [.Call (.Name "range" p1) [a, b] [] p2] [] pos) (fun es => es = (List.range n).map fun j : Nat => PyData.int (i + (j : Int))) := fun σ H C Q q =>
  EE.of (pe_listRg hc hg hm (prg_2 hg2 hr pee pee na na2 hpp) nb) (ha σ H C _ fun v H1 d C1 s1 e1 rv => hb σ H1 C1 _ fun w H2 d2 C2 s2 e2 rw2 => by
    subst e1 e2
    have rv : v = .int i := rv
    have rw2 : w = .int (i + n) := rw2
    refine ⟨i, i + n, rv, rw2, ⟨by omega, by omega, by omega, by omega, by omega⟩, fun l hl => ?_⟩
    have e0 : rgV i (i + n) = (((List.range n).map fun j : Nat => i + (j : Int)).map V.int) := by
      unfold rgV
      rw [List.map_map]
      have : (i + (n : Int) - i).toNat = n := by omega
      rw [this]
      rfl
    have st : Stp [] H2 (upd H2 l (.lst (rgV i (i + n)))) := Stp.new hl
    refine q l _ _ _ (C2.ext st) ((s1.trans s2).trans st.nil) (C.back C2 (s1.trans s2) hl) upd_same rfl (mv_new hl ?_)
    rw [e0, ← show ((List.range n).map fun j : Nat => i + (j : Int)).map PyData.int = (List.range n).map (fun j : Nat => PyData.int (i + (j : Int))) from by rw [List.map_map]; rfl]
    exact Rps.of_ints _)
/-! ### while -/
section
variable {γ : Type} (Gf : γ → List (Addr × MO)) (δf : γ → List Sl) (Pv : Nat → γ → Prop)
theorem ss_while {body : List Stmt} (t : γ → Bool) (n0 : Nat) (g0 : γ) (C : Ctx X.K W S (Gf g0) (δf g0) σ H) (p0 : Pv n0 g0) (hb : ∀ n g, Pv n g → BE X W S (Gf g) (δf g) c (fun b => b = t g))
    (h1 : ∀ n g σ' H', Pv n g → t g = true → Ctx X.K W S (Gf g) (δf g) σ' H' → SS X body { D with nx := fun σ' H' => ∃ n' g', n' < n ∧ Pv n' g' ∧ Ctx X.K W S (Gf g') (δf g') σ' H', ct := fun σ' H' => ∃ n' g', n' < n ∧ Pv n' g' ∧ Ctx X.K W S (Gf g') (δf g') σ' H', bk := SS X r D } σ' H')
    (h0 : ∀ n g σ' H', Pv n g → t g = false → Ctx X.K W S (Gf g) (δf g) σ' H' → SS X r D σ' H') (hp : PassesOwn (model X.prog X.w) X.A X.env X.xe) : SS X (.While c body [] pos :: r) D σ H := by
  refine ss_cons (S1.of (ps_while hp pet psse) ⟨fun n σ' H' => ∃ g, Pv n g ∧ Ctx X.K W S (Gf g) (δf g) σ' H', ⟨n0, g0, p0, C⟩, ?_⟩)
  rintro n σ' H' ⟨g, pv, C'⟩
  refine hb n g pv σ' H' C' _ fun b H2 C2 s2 e => ?_
  subst e
  cases e : t g with
  | false => exact iteF (h0 n g σ' H2 pv e C2)
  | true => exact iteT ⟨fun σ' H' => ∃ n' g', n' < n ∧ Pv n' g' ∧ Ctx X.K W S (Gf g') (δf g') σ' H', fun σ' H' ⟨n', g', h, p, C3⟩ => ⟨n', h, g', p, C3⟩, h1 n g σ' H2 pv e C2⟩
end
/-! ### a, b = e1, e2: new objects -/
theorem ss_parV (i j : Nat) {x y : Str} {px py pt : Pos} {kt k2 : Nat} {pt2 : Pos} (hp : PS X (.Assign [.Tuple [.Name x px, .Name y py] kt pt] (.Tuple [a, b] k2 pt2) pos) (tPar i j (tCons (EE X a) (tCons (EE X b) tNil)))) (q : EE X a σ H fun v H1 => EE X b σ H1 fun w H2 => ∃ v' w', [v, w] = [v', w'] ∧ SS X r D ((σ.set i (some v')).set j (some w')) H2) :
    SS X (.Assign [.Tuple [.Name x px, .Name y py] kt pt] (.Tuple [a, b] k2 pt2) pos :: r) D σ H := ss_cons (S1.of hp q)
theorem Ctx.mvA {H' : Hp} {p : Addr} (C : Ctx X.K W S G δ σ H) (s : Stp W.M H H') (hp : H p = none) : Mv S (p :: S) H H' := fun b u e n => ⟨s b u e fun z => n (C.ms b z).1, fun z => by
  rcases List.mem_cons.mp z with z | z
  · rw [z, hp] at e; cases e
  · exact n z⟩
/-- data, then a new list -/
theorem ss_parDL (i j : Nat) {x y : Str} {px py pt : Pos} {kt k2 : Nat} {pt2 : Pos} {Ps : List PyData → Prop} (C : Ctx X.K W S G δ σ H) (hp : PS X (.Assign [.Tuple [.Name x px, .Name y py] kt pt] (.Tuple [a, b] k2 pt2) pos) (tPar i j (tCons (EE X a) (tCons (EE X b) tNil)))) (ha : DE X W S G δ a Pa) (hb : NE X W S G δ b Ps)
    (k : ∀ da q db σ' H', q ∉ S → Ctx X.K W (q :: S) ((q, .lst db) :: G) ((δ.set i (.d da)).set j (.v (.ref q))) σ' H' → Stp W.M H H' → Pa da → Ps db → SS X r D σ' H') : SS X (.Assign [.Tuple [.Name x px, .Name y py] kt pt] (.Tuple [a, b] k2 pt2) pos :: r) D σ H :=
  ss_parV i j hp (ha σ H C _ fun v H1 da C1 s1 pa ra => hb σ H1 C1 _ fun p H2 db xs C2 s2 hq hl pb rb => ⟨v, .ref p, rfl, k da p db _ H2 (C1.trk.out hq) (((C1.adopt (x := .lst db) C2 s2 hq ⟨xs, hl, rb⟩).set i (s := .d da) ⟨v, rfl, ra.mv (C1.mvA s2 hq)⟩).set j (s := .v (.ref p)) rfl) (s1.trans s2) pa pb⟩)
/-- data, then a new dict -/
theorem ss_parDD (i j : Nat) {x y : Str} {px py pt : Pos} {kt k2 : Nat} {pt2 : Pos} {Pm : List (Key × PyData) → Prop} (C : Ctx X.K W S G δ σ H) (hp : PS X (.Assign [.Tuple [.Name x px, .Name y py] kt pt] (.Tuple [a, b] k2 pt2) pos) (tPar i j (tCons (EE X a) (tCons (EE X b) tNil)))) (ha : DE X W S G δ a Pa) (hb : ND X W S G δ b Pm)
    (k : ∀ da q db σ' H', q ∉ S → Ctx X.K W (q :: S) ((q, .dct db) :: G) ((δ.set i (.d da)).set j (.v (.ref q))) σ' H' → Stp W.M H H' → Pa da → Pm db → SS X r D σ' H') : SS X (.Assign [.Tuple [.Name x px, .Name y py] kt pt] (.Tuple [a, b] k2 pt2) pos :: r) D σ H :=
  ss_parV i j hp (ha σ H C _ fun v H1 da C1 s1 pa ra => hb σ H1 C1 _ fun p H2 db xs C2 s2 hq hl pb rb => ⟨v, .ref p, rfl, k da p db _ H2 (C1.trk.out hq) (((C1.adopt (x := .dct db) C2 s2 hq ⟨xs, hl, rb⟩).set i (s := .d da) ⟨v, rfl, ra.mv (C1.mvA s2 hq)⟩).set j (s := .v (.ref p)) rfl) (s1.trans s2) pa pb⟩)
/-- new objects both -/
theorem ss_parLL (i j : Nat) {x y : Str} {px py pt : Pos} {kt k2 : Nat} {pt2 : Pos} {Pq Ps : List PyData → Prop} (C : Ctx X.K W S G δ σ H) (hp : PS X (.Assign [.Tuple [.Name x px, .Name y py] kt pt] (.Tuple [a, b] k2 pt2) pos) (tPar i j (tCons (EE X a) (tCons (EE X b) tNil)))) (ha : NE X W S G δ a Pq) (hb : ∀ q l, NE X W (q :: S) ((q, .lst l) :: G) δ b Ps)
    (k : ∀ p q da db σ' H', p ∉ S → q ∉ p :: S → Ctx X.K W (q :: p :: S) ((q, .lst db) :: (p, .lst da) :: G) ((δ.set i (.v (.ref p))).set j (.v (.ref q))) σ' H' → Stp W.M H H' → Pq da → Ps db → SS X r D σ' H') : SS X (.Assign [.Tuple [.Name x px, .Name y py] kt pt] (.Tuple [a, b] k2 pt2) pos :: r) D σ H :=
  ss_parV i j hp (ha σ H C _ fun p H1 da xs C1 s1 hq1 hl1 pa ra => by
    have CA := C.adopt (x := .lst da) C1 s1 hq1 ⟨xs, hl1, ra⟩
    exact hb p da σ H1 CA _ fun q H2 db ys C2 s2 hq hl pb rb => ⟨.ref p, .ref q, rfl, k p q da db _ H2 (C.trk.out hq1) (CA.trk.out hq) (((CA.adopt (x := .lst db) C2 s2 hq ⟨ys, hl, rb⟩).set i (s := .v (.ref p)) rfl).set j (s := .v (.ref q)) rfl) (s1.trans s2) pa pb⟩)
theorem ss_parDDn (i j : Nat) {x y : Str} {px py pt : Pos} {kt k2 : Nat} {pt2 : Pos} {Pq Pm : List (Key × PyData) → Prop} (C : Ctx X.K W S G δ σ H) (hp : PS X (.Assign [.Tuple [.Name x px, .Name y py] kt pt] (.Tuple [a, b] k2 pt2) pos) (tPar i j (tCons (EE X a) (tCons (EE X b) tNil)))) (ha : ND X W S G δ a Pq) (hb : ∀ q l, ND X W (q :: S) ((q, .dct l) :: G) δ b Pm)
    (k : ∀ p q da db σ' H', p ∉ S → q ∉ p :: S → Ctx X.K W (q :: p :: S) ((q, .dct db) :: (p, .dct da) :: G) ((δ.set i (.v (.ref p))).set j (.v (.ref q))) σ' H' → Stp W.M H H' → Pq da → Pm db → SS X r D σ' H') : SS X (.Assign [.Tuple [.Name x px, .Name y py] kt pt] (.Tuple [a, b] k2 pt2) pos :: r) D σ H :=
  ss_parV i j hp (ha σ H C _ fun p H1 da xs C1 s1 hq1 hl1 pa ra => by
    have CA := C.adopt (x := .dct da) C1 s1 hq1 ⟨xs, hl1, ra⟩
    exact hb p da σ H1 CA _ fun q H2 db ys C2 s2 hq hl pb rb => ⟨.ref p, .ref q, rfl, k p q da db _ H2 (C.trk.out hq1) (CA.trk.out hq) (((CA.adopt (x := .dct db) C2 s2 hq ⟨ys, hl, rb⟩).set i (s := .v (.ref p)) rfl).set j (s := .v (.ref q)) rfl) (s1.trans s2) pa pb⟩)
theorem ss_parDnL (i j : Nat) {x y : Str} {px py pt : Pos} {kt k2 : Nat} {pt2 : Pos} {Pq : List (Key × PyData) → Prop} {Ps : List PyData → Prop} (C : Ctx X.K W S G δ σ H) (hp : PS X (.Assign [.Tuple [.Name x px, .Name y py] kt pt] (.Tuple [a, b] k2 pt2) pos) (tPar i j (tCons (EE X a) (tCons (EE X b) tNil)))) (ha : ND X W S G δ a Pq) (hb : ∀ q l, NE X W (q :: S) ((q, .dct l) :: G) δ b Ps)
    (k : ∀ p q da db σ' H', p ∉ S → q ∉ p :: S → Ctx X.K W (q :: p :: S) ((q, .lst db) :: (p, .dct da) :: G) ((δ.set i (.v (.ref p))).set j (.v (.ref q))) σ' H' → Stp W.M H H' → Pq da → Ps db → SS X r D σ' H') : SS X (.Assign [.Tuple [.Name x px, .Name y py] kt pt] (.Tuple [a, b] k2 pt2) pos :: r) D σ H :=
  ss_parV i j hp (ha σ H C _ fun p H1 da xs C1 s1 hq1 hl1 pa ra => by
    have CA := C.adopt (x := .dct da) C1 s1 hq1 ⟨xs, hl1, ra⟩
    exact hb p da σ H1 CA _ fun q H2 db ys C2 s2 hq hl pb rb => ⟨.ref p, .ref q, rfl, k p q da db _ H2 (C.trk.out hq1) (CA.trk.out hq) (((CA.adopt (x := .lst db) C2 s2 hq ⟨ys, hl, rb⟩).set i (s := .v (.ref p)) rfl).set j (s := .v (.ref q)) rfl) (s1.trans s2) pa pb⟩)
/-! ### lists that change: append, extend, pop -/
theorem ss_append (i : Nat) {x : Str} {p : Addr} {p1 p2 p3 : Pos} (C : Ctx X.K W S ((p, .lst ds) :: G) δ σ H) (hd : δ[i]? = some (.v (.ref p))) (hz : ds.length ≤ 1000) (hn : ∀ q ∈ G, q.1 ≠ p) (he : DE X W S ((p, .lst ds) :: G) δ e P)
    (k : ∀ d σ' H', Ctx X.K W S ((p, .lst (ds ++ [d])) :: G) δ σ' H' → Stp (p :: W.M) H H' → P d → SS X r D σ' H')
    (hN : X.N[i]? = some x := by rfl) (hv : Vis X.env.scope x := by first | exact Or.inl rfl | exact Or.inr (Or.inl rfl) | exact Or.inr (Or.inr rfl)) (h1 : (x == ("__debug__" : Str)) = false := by decide) (h2 : (x == ("__classdict__" : Str)) = false := by decide)
    (hbase : attributeBase (.Name x p1) "append" X.env (eval (.Name x p1) X.env) = eval (.Name x p1) X.env := by rfl)
    (hfew : ((backTo p3 (starEach [e] X.env)).all (fun x => !x.1) && (backToKw p3 (keywordEach [] X.env)).all (fun x => x.1.isSome) && decide (([e] : List Expr).length + ([] : List Keyword).length + (if ([] : List Keyword).isEmpty then 0 else 1) < 30)) = true := by rfl)
    (hline : (p2.endLine == p3.line) = true := by rfl) (hse : starEach [e] X.env = (false, eval e X.env) :: starEach [] X.env := by exact star_cons rfl) (hs : swapsWith (.Call (.Attribute (.Name x p1) "append" p2) [e] [] p3) none pos.line X.env = pure false := by rfl) : SS X (.Expr (.Call (.Attribute (.Name x p1) "append" p2) [e] [] p3) pos :: r) D σ H :=
  ss_app i C hd hz hn he k (pe_bm PySem.F.plainAttrs_list PySem.F.slot_list_append PySem.F.type_list_append mt_append (pe_var hN hv h1 h2) (pa_cons pee pa_nil hse) hbase hfew hline hse) hs
/-- xs.extend(e) -/
theorem ss_extend (i : Nat) {x : Str} {p : Addr} {p1 p2 p3 : Pos} (C : Ctx X.K W S ((p, .lst ds) :: G) δ σ H) (hd : δ[i]? = some (.v (.ref p))) (hn : ∀ q ∈ G, q.1 ≠ p) {Ps : List PyData → Prop} (he : DE X W S ((p, .lst ds) :: G) δ e (fun z => ∃ l, z = .list l ∧ Ps l)) (hz : ∀ l, Ps l → ds.length + l.length ≤ 1000)
    (k : ∀ l σ' H', Ctx X.K W S ((p, .lst (ds ++ l)) :: G) δ σ' H' → Stp (p :: W.M) H H' → Ps l → SS X r D σ' H')
    (hN : X.N[i]? = some x := by rfl) (hv : Vis X.env.scope x := by first | exact Or.inl rfl | exact Or.inr (Or.inl rfl) | exact Or.inr (Or.inr rfl)) (h1 : (x == ("__debug__" : Str)) = false := by decide) (h2 : (x == ("__classdict__" : Str)) = false := by decide)
    (hbase : attributeBase (.Name x p1) "extend" X.env (eval (.Name x p1) X.env) = eval (.Name x p1) X.env := by rfl)
    (hfew : ((backTo p3 (starEach [e] X.env)).all (fun x => !x.1) && (backToKw p3 (keywordEach [] X.env)).all (fun x => x.1.isSome) && decide (([e] : List Expr).length + ([] : List Keyword).length + (if ([] : List Keyword).isEmpty then 0 else 1) < 30)) = true := by rfl)
    (hline : (p2.endLine == p3.line) = true := by rfl) (hse : starEach [e] X.env = (false, eval e X.env) :: starEach [] X.env := by exact star_cons rfl) (hs : swapsWith (.Call (.Attribute (.Name x p1) "extend" p2) [e] [] p3) none pos.line X.env = pure false := by rfl) : SS X (.Expr (.Call (.Attribute (.Name x p1) "extend" p2) [e] [] p3) pos :: r) D σ H := by
  refine ss_cons (S1.of (ps_expr (pe_bm PySem.F.plainAttrs_list PySem.F.slot_list_extend PySem.F.type_list_extend mt_extend (pe_var hN hv h1 h2) (pa_cons pee pa_nil hse) hbase hfew hline hse) hs) ?_)
  obtain ⟨o, e1, e2⟩ := C.env.get hd
  have e2 : o = some (.ref p) := e2
  obtain ⟨⟨xs0, hl0, _⟩, _⟩ := C.objs _ List.mem_cons_self
  refine ⟨.ref p, by rw [e1, e2], .inl ⟨rfl, _, .inl (.inl hl0)⟩, he σ H C _ fun v H1 d C1 s1 ⟨l, e1, pl⟩ rv => ?_⟩
  subst e1
  obtain ⟨q, ys, rfl, ⟨hqS, hqe⟩, ry⟩ := rv
  obtain ⟨⟨xs, hl, rs⟩, haS, haM, _⟩ := C1.objs _ List.mem_cons_self
  refine ⟨p, q, xs, ys, rfl, rfl, hl, hqe, by rw [rs.len, ry.len]; exact Nat.le_of_lt (small1000 (hz l pl)), ?_⟩
  have m : Mv S S H1 (upd H1 p (.lst (xs ++ ys))) := fun b u e n => ⟨by rw [upd_ne (fun z => n (by rw [z]; exact haS))]; exact e, n⟩
  refine k l σ _ (C1.wr (y := .lst (ds ++ l)) List.mem_cons_self (fun q hq => ?_) ⟨xs ++ ys, upd_same, (rs.app ry).mv m⟩) ((s1.mono fun x hx => List.mem_cons_of_mem _ hx).trans (Stp.wr List.mem_cons_self)) pl
  rcases List.mem_cons.mp hq with e | hq
  · exact .inl e
  · exact .inr ⟨List.mem_cons_of_mem _ hq, hn q hq⟩
theorem Rps.snoc {K : PySem.W.Frag} : ∀ {ds : List PyData} {d : PyData} {vs : List V}, Rps K S H (ds ++ [d]) vs → ∃ xs v, vs = xs ++ [v] ∧ Rps K S H ds xs ∧ Rp K S H d v
  | [], d, vs, ⟨v, vs', e, h1, h2⟩ => by
    have h2 : vs' = [] := h2
    subst h2
    exact ⟨[], v, e, rfl, h1⟩
  | c :: ds, d, vs, ⟨v, vs', e, h1, h2⟩ => by
    obtain ⟨xs, w, e2, h3, h4⟩ := Rps.snoc h2
    exact ⟨v :: xs, w, by rw [e, e2]; rfl, ⟨v, xs, rfl, h1, h3⟩, h4⟩
/-- xs.pop(), as an expression: what changes is told -/
theorem ev_pop (i : Nat) {x : Str} {p : Addr} {p1 p2 p3 : Pos} {Q : VK} (C : Ctx X.K W S ((p, .lst (ds ++ [d])) :: G) δ σ H) (hd : δ[i]? = some (.v (.ref p))) (hn : ∀ q ∈ G, q.1 ≠ p)
    (k : ∀ v H', Ctx X.K W S ((p, .lst ds) :: G) δ σ H' → Stp (p :: W.M) H H' → Rp X.K S H' d v → Q v H')
    (hN : X.N[i]? = some x := by rfl) (hv : Vis X.env.scope x := by first | exact Or.inl rfl | exact Or.inr (Or.inl rfl) | exact Or.inr (Or.inr rfl)) (h1 : (x == ("__debug__" : Str)) = false := by decide) (h2 : (x == ("__classdict__" : Str)) = false := by decide)
    (hbase : attributeBase (.Name x p1) "pop" X.env (eval (.Name x p1) X.env) = eval (.Name x p1) X.env := by rfl) (hline : (p2.endLine == p3.line) = true := by rfl) : EE X (.Call (.Attribute (.Name x p1) "pop" p2) [] [] p3) σ H Q := by
  refine EE.of (pe_bm0 PySem.F.plainAttrs_list PySem.F.slot_list_pop PySem.F.type_list_pop mt_pop (pe_var hN hv h1 h2) hbase hline) ?_
  obtain ⟨o, e1, e2⟩ := C.env.get hd
  have e2 : o = some (.ref p) := e2
  obtain ⟨⟨xs, hl, rs⟩, haS, haM, _⟩ := C.objs _ List.mem_cons_self
  obtain ⟨ys, v, rfl, r1, r2⟩ := rs.snoc
  have m : Mv S S H (upd H p (.lst ys)) := fun b u e n => ⟨by rw [upd_ne (fun z => n (by rw [z]; exact haS))]; exact e, n⟩
  refine ⟨.ref p, by rw [e1, e2], .inl ⟨rfl, _, .inl (.inl hl)⟩, p, _, v, rfl, rfl, hl, by simp, ?_⟩
  rw [List.dropLast_concat]
  refine k v _ (C.wr (y := .lst ds) List.mem_cons_self (fun q hq => ?_) ⟨ys, upd_same, r1.mv m⟩) (Stp.wr List.mem_cons_self) (r2.mv m)
  rcases List.mem_cons.mp hq with e | hq
  · exact .inl e
  · exact .inr ⟨List.mem_cons_of_mem _ hq, hn q hq⟩
end
end Dl
/-! text A4 -/
set_option Elab.async false
set_option linter.all false
set_option maxRecDepth 100000
set_option maxHeartbeats 1000000
namespace K53
open PySem PySem.Spec PyProof.Rows L2 Dl
local macro_rules | `(tactic| walk_at "fl") => `(tactic| first | rfl | assumption | (simp only [*]; done) | decide)
section
variable {X : Cx} {W : Wd} {S : List Addr} {G : List (Addr × MO)} {δ : List Sl} {e : Expr} {pos p pd : Pos} {dl cl : Addr}
abbrev preAny (n : Int) (ds : List PyData) : Prop := ds = [.int n] ∧ 0 < n ∧ n ≤ 2 ^ 64
abbrev postAny (n : Int) (d : PyData) : Prop := ∃ k : Int, 0 ≤ k ∧ k < n ∧ d = .int k
/-- _law_of(_law_deal, some), the deal at slot 0 -/
theorem de_of {l : List PyData} (F : DefOk X.prog X.w X.K X.mg X.base 2 "_law_of" ["_law_deal", "_law_some"] (spM X.K preOf (fun l d => d ∈ l))) (hr : Room 2 X.A) (hW : W.M = [dl, cl]) (hd : δ[0]? = some (.v (.ref dl))) (he : DE X W S G δ e (fun y => y = .list l)) (h0 : l ≠ [] := by exact List.cons_ne_nil _ _) (hz : l.length ≤ 1000 := by first | (simp only [List.length_cons, List.length_nil] <;> omega) | decide)
    (hN : X.N[0]? = some ("_law_deal" : Str) := by rfl) (hv : Vis X.env.scope ("_law_deal" : Str) := by first | exact Or.inl rfl | exact Or.inr (Or.inl rfl) | exact Or.inr (Or.inr rfl)) (hg : Gl X "_law_of" := by rfl)
    (hse : starEach [e] X.env = (false, eval e X.env) :: starEach [] X.env := by exact star_cons rfl) (hsd : starEach [.Name "_law_deal" pd, e] X.env = (false, eval (.Name "_law_deal" pd) X.env) :: starEach [e] X.env := by exact star_cons rfl) (hpl : (backTo pos (starEach [e] X.env)).any (·.1) = false := by exact back_plain rfl) : DE X W S G δ (.Call (.Name "_law_of" p) [.Name "_law_deal" pd, e] [] pos) (fun d => d ∈ l) :=
  de_callM 0 hW hd F hr (da_consE he da_nilE hse) (pre1 l ⟨rfl, h0, hz⟩ fun d q => q) hN hv (by decide) (by decide) hg (by decide) hsd hpl
theorem de_any {n : Int} (F : DefOk X.prog X.w X.K X.mg X.base 1 "_law_any" ["_law_deal", "_law_bound"] (spM X.K preAny postAny)) (hr : Room 1 X.A) (hW : W.M = [dl, cl]) (hd : δ[0]? = some (.v (.ref dl))) (he : DE X W S G δ e (fun y => y = .int n)) (h0 : 0 < n := by decide) (hz : n ≤ 2 ^ 64 := by decide)
    (hN : X.N[0]? = some ("_law_deal" : Str) := by rfl) (hv : Vis X.env.scope ("_law_deal" : Str) := by first | exact Or.inl rfl | exact Or.inr (Or.inl rfl) | exact Or.inr (Or.inr rfl)) (hg : Gl X "_law_any" := by rfl)
    (hse : starEach [e] X.env = (false, eval e X.env) :: starEach [] X.env := by exact star_cons rfl) (hsd : starEach [.Name "_law_deal" pd, e] X.env = (false, eval (.Name "_law_deal" pd) X.env) :: starEach [e] X.env := by exact star_cons rfl) (hpl : (backTo pos (starEach [e] X.env)).any (·.1) = false := by exact back_plain rfl) : DE X W S G δ (.Call (.Name "_law_any" p) [.Name "_law_deal" pd, e] [] pos) (IsI fun k => 0 ≤ k ∧ k < n) :=
  de_callM 0 hW hd F hr (da_consE he da_nilE hse) (pre1 n ⟨rfl, h0, hz⟩ fun d ⟨k, h1, h2, e⟩ => ⟨k, e, h1, h2⟩) hN hv (by decide) (by decide) hg (by decide) hsd hpl
end
/-- an int, a width -/
abbrev Anyint : PyData → Prop := fun d => ∃ i : Int, d = .int i
def Wid (d : PyData) : Prop := ∃ n : Nat, d = .int (n : Int) ∧ n ≤ 64
theorem wid_of {n : Nat} (h : n ≤ 64) : Wid (.int (n : Int)) := ⟨n, rfl, h⟩
theorem Deal.of {X : Cx} {dl cl : Addr} {S G δ σ H H0} (C : Ctx X.K ⟨[dl, cl], H0, [dl, cl]⟩ S G δ σ H) : Deal H dl cl := C.dealM
section
variable {P : Program} {w : World} {K : PySem.W.Frag} {mg : Str → Option Value} {base : Heap}
theorem pow_le {n : Nat} (h : n ≤ 64) : ((2 : Int) ^ n) ≤ 2 ^ 64 := by
  have h1 : (2 : Nat) ^ n ≤ 2 ^ 64 := Nat.pow_le_pow_right (by decide) h
  have h2 : ((2 ^ n : Nat) : Int) ≤ ((2 ^ 64 : Nat) : Int) := Int.ofNat_le.mpr h1
  rw [Int.natCast_pow, Int.natCast_pow] at h2
  exact h2
theorem pow_pos' (n : Nat) : 0 < ((2 : Int) ^ n) := by
  have h1 : 0 < (2 : Nat) ^ n := Nat.pow_pos (by decide)
  have h2 : ((0 : Nat) : Int) < ((2 ^ n : Nat) : Int) := Int.ofNat_lt.mpr h1
  rw [Int.natCast_pow] at h2
  exact h2
theorem ok_number (T : Txt K mg) : DefOk P w K mg base 3 "_law_number" ["_law_deal", "_law_width"] (spM K (fun (n : Nat) ds => ds = [.int (n : Int)] ∧ n ≤ 64) (fun _ d => Anyint d)) := by
  refine def_M T.F_L_number T.g_L_number b_L_number sc_L_number (by rintro n _ ⟨rfl, _⟩; rfl) ?_
  rintro X ⟨cdv, A, outer, s, H0, E, hr, rfl⟩ n S0 H dl cl ds σ Q C ⟨rfl, hn⟩ hQ
  have r2 : Room 2 (A.deeper (envOfC "_law_number" (defScope s_L_number) s.heap.objs.size (He.ga K "_law_number") cdv)) := hr
  have r1 : Room 1 (A.deeper (envOfC "_law_number" (defScope s_L_number) s.heap.objs.size (He.ga K "_law_number") cdv)) := hr.mono (by decide)
  refine ss_set 2 (P := fun d => d = .int ((2 : Int) ^ n)) C (de_call (ok_power T) r1 (da_consE (de_var 1 rfl) da_nilE) (pre1 n ⟨rfl, hn⟩ fun d p => p)) (fun d σ1 H1 C1 _ e1 => ?_) sc_L_number.nd
  subst e1
  refine ss_set 3 C1 (de_any (ok_any T) r1 rfl rfl de_int) (fun d σ2 H2 C2 _ ⟨k, e2, k0, k1⟩ => ?_) sc_L_number.nd
  subst e2
  refine ss_if C2 (be_lt (de_var 3 rfl) de_int) (fun H3 C3 _ _ => ?_) (fun H3 C3 _ _ => ?_)
  · refine ss_retM (post := Anyint) (S0 := S0) C3 (de_opN (pr := fun _ => True) (q := fun j => j = (2 : Int) ^ n) op_modN (de_intOf T.n_int (de_any (ok_any T) r1 rfl rfl de_int)) (de_I (de_var 2 rfl)) fun i j _ hj => ⟨by rw [hj]; exact Int.ne_of_gt (pow_pos' n), True.intro⟩) hQ fun d ⟨i, e, _⟩ => ⟨i, e⟩
  · refine ss_nil ?_
    refine ss_retM (post := Anyint) (S0 := S0) (P := Anyint) C3 (de_if (be_eq (de_var 3 rfl) de_int (by walk_at "fl")) (fun _ => (de_of (ok_of T) r2 rfl rfl (de_lstE (da_consE de_int (da_consE de_int (da_consE (de_sub (de_var 2 rfl) de_int) (da_consE (de_fdivW (de_var 2 rfl) de_int (by exact ⟨by decide, by decide⟩)) (da_consE (de_sub (de_fdivW (de_var 2 rfl) de_int (by exact ⟨by decide, by decide⟩)) de_int) da_nilE))))))).imp fun d hd => ?_) (fun _ => (de_any (ok_any T) r1 rfl rfl (de_var 2 rfl) (pow_pos' n) (pow_le hn)).imp fun d ⟨i, e, _⟩ => ⟨i, e⟩)) hQ fun d e => e
    simp only [List.mem_cons, List.not_mem_nil, or_false] at hd
    rcases hd with e | e | e | e | e <;> exact ⟨_, e⟩
end
end K53
/-! text D12 -/
set_option Elab.async false
set_option linter.all false
set_option maxRecDepth 100000
set_option maxHeartbeats 1000000
namespace Dl
open PySem PySem.Spec PyProof.Rows L2
section
variable {X : Cx} {W : Wd} {S : List Addr} {G : List (Addr × MO)} {δ δ' δ'' : List Sl} {a b c e tg : Expr} {es : List Expr} {P Pa Pb : PyData → Prop} {pos : Pos} {σ : L2.St} {H H1 : Hp} {D : Ends} {r : List Stmt} {d x y : PyData} {ds l : List PyData} {js ks : List Nat} {m : List (Key × PyData)} {k : Key} {J : It} {S0 : List Addr}
/-- a, b, .. = e: what e gives is told by a ghost -/
theorem ss_tupA {k : Nat} {ts : List Expr} {α : Type} (f : α → PyData) (Px : α → Prop) (δ' : α → List Sl) (C : Ctx X.K W S G δ σ H) (he : DE X W S G δ e (fun d => ∃ x, d = f x ∧ Px x)) (hg : ∀ x, Px x → GD X W S G js (.Tuple ts k pos) δ (f x) (δ' x)) (q : ∀ x σ' H', Ctx X.K W S G (δ' x) σ' H' → Stp W.M H H' → Px x → SS X r D σ' H')
    (hs : swapsWithSole [.Tuple ts k pos] e pos'.line X.env = pure false := by rfl) (hw : swappedStores [.Tuple ts k pos] e X.env = pure none := by rfl) (h1 : (assignEach [.Tuple ts k pos] X.env).map (·.2) = [assign (.Tuple ts k pos) X.env] := by rfl) : SS X (.Assign [.Tuple ts k pos] e pos' :: r) D σ H :=
  ss_cons (S1.of (ps_asg pee pge hs hw h1) (he σ H C _ fun v H' d C' st ⟨x, e, p⟩ rv => by
    subst e
    exact hg x p σ H' v C' rv _ fun σ' C2 _ => q x σ' H' C2 st p))
/-- a list that changed is data from now on -/
theorem EnvOk.same {K : PySem.W.Frag} {S : List Addr} {H : Hp} : ∀ {σ : L2.St} {δ : List Sl}, EnvOk K S H σ δ → ∀ (i : Nat) {s : Sl}, (∀ o, σ[i]? = some o → SlOk K S H o s) → EnvOk K S H σ (δ.set i s)
  | _, [], h, i, s, q => h
  | _, s0 :: δ, ⟨o, σ', e, h1, h2⟩, 0, s', q => by
    subst e
    exact ⟨o, σ', rfl, q o rfl, h2⟩
  | _, s0 :: δ, ⟨o, σ', e, h1, h2⟩, i + 1, s', q => by
    subst e
    exact ⟨o, σ', rfl, h1, EnvOk.same h2 i fun o' e' => q o' (by simpa using e')⟩
theorem Ctx.solid {p : Addr} (i : Nat) (C : Ctx X.K W (p :: S) ((p, .lst ds) :: G) δ σ H) (hp : p ∉ S) (hG : ∀ q ∈ G, q.1 ∈ S) (hM : ∀ a ∈ W.M, a ∈ S) (hi : δ[i]? = some (.v (.ref p))) : Ctx X.K W S G (δ.set i (.d (.list ds))) σ H := by
  have r := C.freeze hp
  have C' := C.drop hp hG hM
  refine ⟨C'.env.same i fun o e => ?_, C'.deal, C'.ms, C'.objs, C'.trk, C'.fr⟩
  obtain ⟨o', e1, e2⟩ := C'.env.get hi
  rw [e1] at e
  cases e
  exact ⟨.ref p, e2, r⟩
theorem Ctx.solidD {p : Addr} (i : Nat) (C : Ctx X.K W (p :: S) ((p, .dct m) :: G) δ σ H) (hp : p ∉ S) (hG : ∀ q ∈ G, q.1 ∈ S) (hM : ∀ a ∈ W.M, a ∈ S) (hi : δ[i]? = some (.v (.ref p))) : Ctx X.K W S G (δ.set i (.d (.dict (mD m)))) σ H := by
  have r := C.frzD hp
  have C' := C.drop hp hG hM
  refine ⟨C'.env.same i fun o e => ?_, C'.deal, C'.ms, C'.objs, C'.trk, C'.fr⟩
  obtain ⟨o', e1, e2⟩ := C'.env.get hi
  rw [e1] at e
  cases e
  exact ⟨.ref p, e2, r⟩
end
end Dl
/-! text D13 -/
set_option Elab.async false
set_option linter.all false
set_option maxRecDepth 100000
set_option maxHeartbeats 1000000
namespace Dl
open PySem PySem.Spec PyProof.Rows L2
/-! ### what is written out -/
mutual
def litE : Expr → Option PyData
  | .Constant .none _ _ => some .none
  | .Constant (.bool b) _ _ => some (.bool b)
  | .Constant (.int i) _ _ => some (.int i)
  | .Constant (.str x) _ _ => some (.str x)
  | .Tuple es _ _ => match litEs es with
    | some ds => if ds.length ≤ 1000 then some (.tuple ds) else none
    | none => none
  | .List es _ => match litEs es with
    | some ds => if ds.length ≤ 1000 then some (.list ds) else none
    | none => none
  | _ => none
def litEs : List Expr → Option (List PyData)
  | [] => some []
  | e :: es => match litE e with
    | some d => match litEs es with
      | some ds => some (d :: ds)
      | none => none
    | none => none
end
theorem litE_star {e : Expr} {d : PyData} (h : litE e = some d) : nStar e = true := by
  cases e with
  | Starred _ _ => simp [litE] at h
  | _ => rfl
section
variable {X : Cx} {W : Wd} {S : List Addr} {G : List (Addr × MO)} {δ : List Sl}
mutual
theorem de_lit' : ∀ {e : Expr} {d : PyData}, litE e = some d → DE X W S G δ e (fun z => z = d)
  | .Constant .none _ _, _, h => by simp only [litE, Option.some.injEq] at h; subst h; exact de_non
  | .Constant (.bool b) _ _, _, h => by simp only [litE, Option.some.injEq] at h; subst h; exact de_bl
  | .Constant (.int i) _ _, _, h => by simp only [litE, Option.some.injEq] at h; subst h; exact de_int
  | .Constant (.str x) _ _, _, h => by simp only [litE, Option.some.injEq] at h; subst h; exact de_str
  | .Tuple es _ _, _, h => by
    rw [litE] at h
    cases q : litEs es with
    | none => rw [q] at h; cases h
    | some ds =>
      rw [q] at h
      dsimp only at h
      by_cases hl : ds.length ≤ 1000
      · rw [if_pos hl] at h
        cases h
        exact de_tupE (da_lit' q) hl
      · rw [if_neg hl] at h; cases h
  | .List es _, _, h => by
    rw [litE] at h
    cases q : litEs es with
    | none => rw [q] at h; cases h
    | some ds =>
      rw [q] at h
      dsimp only at h
      by_cases hl : ds.length ≤ 1000
      · rw [if_pos hl] at h
        cases h
        exact de_lstE (da_lit' q) hl
      · rw [if_neg hl] at h; cases h
  | .Constant (.float _) _ _, _, h => by simp [litE] at h
  | .Constant (.bytes _) _ _, _, h => by simp [litE] at h
  | .Constant .ellipsis _ _, _, h => by simp [litE] at h
  | .Constant (.complex _ _) _ _, _, h => by simp [litE] at h
  | .BoolOp .., _, h => by simp [litE] at h
  | .NamedExpr .., _, h => by simp [litE] at h
  | .BinOp .., _, h => by simp [litE] at h
  | .UnaryOp .., _, h => by simp [litE] at h
  | .Lambda .., _, h => by simp [litE] at h
  | .IfExp .., _, h => by simp [litE] at h
  | .Dict .., _, h => by simp [litE] at h
  | .Set .., _, h => by simp [litE] at h
  | .ListComp .., _, h => by simp [litE] at h
  | .SetComp .., _, h => by simp [litE] at h
  | .DictComp .., _, h => by simp [litE] at h
  | .GeneratorExp .., _, h => by simp [litE] at h
  | .Await .., _, h => by simp [litE] at h
  | .Yield .., _, h => by simp [litE] at h
  | .YieldFrom .., _, h => by simp [litE] at h
  | .Compare .., _, h => by simp [litE] at h
  | .Call .., _, h => by simp [litE] at h
  | .FormattedValue .., _, h => by simp [litE] at h
  | .JoinedStr .., _, h => by simp [litE] at h
  | .Attribute .., _, h => by simp [litE] at h
  | .Subscript .., _, h => by simp [litE] at h
  | .Starred .., _, h => by simp [litE] at h
  | .Name .., _, h => by simp [litE] at h
  | .Slice .., _, h => by simp [litE] at h
theorem da_lit' : ∀ {es : List Expr} {ds : List PyData}, litEs es = some ds → DAs X W S G δ es (fun z => z = ds)
  | [], _, h => by simp only [litEs, Option.some.injEq] at h; subst h; exact da_nilE
  | e :: es, _, h => by
    rw [litEs] at h
    cases q : litE e with
    | none => rw [q] at h; cases h
    | some d =>
      rw [q] at h
      dsimp only at h
      cases q2 : litEs es with
      | none => rw [q2] at h; cases h
      | some ds =>
        rw [q2] at h
        cases h
        exact da_consE (de_lit' q) (da_lit' q2) (star_cons (litE_star q))
end
theorem de_lit {e : Expr} {d : PyData} (h : litE e = some d := by rfl) : DE X W S G δ e (fun z => z = d) := de_lit' h
end
end Dl
/-! text A5 -/
set_option Elab.async false
set_option linter.all false
set_option maxRecDepth 100000
set_option maxHeartbeats 1000000
namespace K53
open PySem PySem.Spec PyProof.Rows L2 Dl
local macro_rules | `(tactic| walk_at "fl") => `(tactic| first | rfl | assumption | (simp only [*]; done) | decide)
/-! ### types, forms of ops -/
def isW : PyData → Bool
  | .int i => decide (0 ≤ i) && decide (i ≤ 64)
  | _ => false
def isS : PyData → Bool
  | .int i => decide (0 ≤ i) && decide (i ≤ 64)
  | .str x => decide (fV (.str x) = fV (.str "ptr"))
  | _ => false
def isT : PyData → Bool
  | .str _ => true
  | _ => false
def isN : PyData → Bool
  | .none => true
  | .int i => decide (0 ≤ i) && decide (i ≤ 64)
  | _ => false
theorem isW_nat {d : PyData} (h : isW d = true) : ∃ n : Nat, d = .int (n : Int) ∧ n ≤ 64 := by
  cases d with
  | int i =>
    simp only [isW, Bool.and_eq_true, decide_eq_true_eq] at h
    exact ⟨i.toNat, by rw [Int.toNat_of_nonneg h.1], by omega⟩
  | _ => cases h
theorem isS_W {d : PyData} (h : isW d = true) : isS d = true := by cases d <;> first | exact h | cases h
theorem isN_W {d : PyData} (h : isW d = true) : isN d = true := by cases d <;> first | exact h | cases h
theorem isT_str {d : PyData} (h : isT d = true) : ∃ x, d = .str x := by cases d <;> first | exact ⟨_, rfl⟩ | cases h
theorem all_of {p : PyData → Bool} {l : List PyData} (h : l.all p = true) {d : PyData} (hd : d ∈ l) : p d = true := List.all_eq_true.mp h d hd
/-- kind, info, the types wanted, the type made -/
inductive Fk : Str → List PyData → List PyData → PyData → Prop
  | bin {s w : PyData} : isT s = true → isW w = true → Fk "bin" [s, w] [w, w] w
  | cmp {s w : PyData} : isT s = true → isW w = true → Fk "cmp" [s, w] [w, w] (.int 1)
  | select {t : PyData} : isS t = true → Fk "select" [t] [.int 1, t, t] t
  | cast {s a b : PyData} : isT s = true → isW a = true → isW b = true → Fk "cast" [s, a, b] [a] b
  | alloca {w n : PyData} : isW w = true → Fk "alloca" [w, n] [] (.str "ptr")
  | at_ {w : PyData} : isW w = true → Fk "at" [w] [.str "ptr", w] (.str "ptr")
  | load {w : PyData} : isW w = true → Fk "load" [w] [.str "ptr"] w
  | store {w : PyData} : isW w = true → Fk "store" [w] [w, .str "ptr"] .none
  | print {w : PyData} : isW w = true → Fk "print" [w] [w] .none
  | input {w : PyData} : isW w = true → Fk "input" [w] [] w
  | call {f t : PyData} {ts : List PyData} : isT f = true → ts.all isS = true → ts.length ≤ 3 → isN t = true → Fk "call" [f] ts t
def FormD (d : PyData) : Prop := ∃ k info want srt, d = .tuple [.str k, .tuple info, .tuple want, srt] ∧ Fk k info want srt
def Hdr (d : PyData) : Prop := ∃ f ts t, d = .tuple [f, .tuple ts, t] ∧ isT f = true ∧ ts.all isS = true ∧ ts.length ≤ 3 ∧ isN t = true
abbrev preForm (hs ds : List PyData) : Prop := ds = [.list hs] ∧ hs ≠ [] ∧ hs.length ≤ 1000 ∧ ∀ h ∈ hs, Hdr h
section
variable {P : Program} {w : World} {K : PySem.W.Frag} {mg : Str → Option Value} {base : Heap}
theorem ok_form (T : Txt K mg) : DefOk P w K mg base 3 "_law_form" ["_law_deal", "_law_headers"] (spM K preForm (fun _ d => FormD d)) := by
  refine def_M T.F_L_form T.g_L_form b_L_form sc_L_form (by rintro n _ ⟨rfl, _⟩; rfl) ?_
  rintro X ⟨cdv, A, outer, s, H0, E, hr, rfl⟩ hs S0 H dl cl ds σ Q C ⟨rfl, hne, hlen, hhd⟩ hQ
  have r2 : Room 2 (A.deeper (envOfC "_law_form" (defScope s_L_form) s.heap.objs.size (He.ga K "_law_form") cdv)) := hr
  have r1 : Room 1 (A.deeper (envOfC "_law_form" (defScope s_L_form) s.heap.objs.size (He.ga K "_law_form") cdv)) := hr.mono (by decide)
  refine ss_set 2 C (de_of (ok_of T) r2 rfl rfl de_lit) (fun dw σ1 H1 C1 _ hw => ?_) sc_L_form.nd
  have hw : isW dw = true := all_of (by decide) hw
  refine ss_set 3 C1 (de_any (ok_any T) r1 rfl rfl de_int) (fun d σ2 H2 C2 _ ⟨k, e2, k0, k1⟩ => ?_) sc_L_form.nd
  subst e2
  refine ss_if C2 (be_lt (de_var 3 rfl) de_int) (fun H3 C3 _ _ => ?_) (fun H3 C3 _ _ => ss_nil ?_)
  · refine ss_set 4 C3 (de_of (ok_of T) r2 rfl rfl de_lit) (fun dop σ4 H4 C4 _ hop => ?_) sc_L_form.nd
    have hop : isT dop = true := all_of (by decide) hop
    exact ss_retM (post := FormD) (S0 := S0) C4 (de_tupE (da_consE de_str (da_consE (de_tupE (da_consE (de_var 4 rfl) (da_consE (de_var 2 rfl) da_nilE))) (da_consE (de_tupE (da_consE (de_var 2 rfl) (da_consE (de_var 2 rfl) da_nilE))) (da_consE (de_var 2 rfl) da_nilE))))) hQ fun d e => ⟨_, _, _, _, e, .bin hop hw⟩
  refine ss_if C3 (be_eq (de_var 3 rfl) de_int (by walk_at "fl")) (fun H4 C4 _ _ => ?_) (fun H4 C4 _ _ => ss_nil ?_)
  · refine ss_retM (post := FormD) (S0 := S0) C4 (P := FormD) ?_ hQ fun d e => e
    refine (de_tupP (Ps := fun ds => ∃ o, isT o = true ∧ ds = [.str "cmp", .tuple [o, dw], .tuple [dw, dw], .int 1]) ?_ ?_).imp fun d ⟨ds, e, o, ho, e2⟩ => ⟨_, _, _, _, by rw [e, e2], .cmp ho hw⟩
    · refine (da_cons de_str (da_cons (de_tupP (Ps := fun ds => ∃ o, isT o = true ∧ ds = [o, dw]) ((da_cons (de_of (ok_of T) r2 rfl rfl de_lit) (da_consE (de_var 2 rfl) da_nilE)).imp ?_) ?_) (da_consE (de_tupE (da_consE (de_var 2 rfl) (da_consE (de_var 2 rfl) da_nilE))) (da_consE de_int da_nilE)))).imp ?_
      · rintro _ ⟨o, r, rfl, ho, rfl⟩
        exact ⟨o, all_of (by decide) ho, rfl⟩
      · rintro _ ⟨o, ho, rfl⟩
        simp only [List.length_cons, List.length_nil]; decide
      · rintro _ ⟨_, _, rfl, rfl, _, _, rfl, ⟨_, rfl, o, ho, rfl⟩, rfl⟩
        exact ⟨o, ho, rfl⟩
    · rintro _ ⟨o, ho, rfl⟩
      simp only [List.length_cons, List.length_nil]; decide
  refine ss_if C4 (be_eq (de_var 3 rfl) de_int (by walk_at "fl")) (fun H5 C5 _ _ => ?_) (fun H5 C5 _ _ => ss_nil ?_)
  · refine ss_set 5 C5 (de_of (ok_of T) r2 rfl rfl (de_lstE (da_consE (de_var 2 rfl) (da_consE (de_var 2 rfl) (da_consE de_str da_nilE))))) (fun dt σ6 H6 C6 _ ht => ?_) sc_L_form.nd
    have ht : isS dt = true := by
      simp only [List.mem_cons, List.not_mem_nil, or_false] at ht
      rcases ht with e | e | e
      · rw [e]; exact isS_W hw
      · rw [e]; exact isS_W hw
      · rw [e]; decide
    exact ss_retM (post := FormD) (S0 := S0) C6 (de_tupE (da_consE de_str (da_consE (de_tupE (da_consE (de_var 5 rfl) da_nilE)) (da_consE (de_tupE (da_consE de_int (da_consE (de_var 5 rfl) (da_consE (de_var 5 rfl) da_nilE)))) (da_consE (de_var 5 rfl) da_nilE))))) hQ fun d e => ⟨_, _, _, _, e, .select ht⟩
  refine ss_if C5 (be_eq (de_var 3 rfl) de_int (by walk_at "fl")) (fun H6 C6 _ _ => ?_) (fun H6 C6 _ _ => ss_nil ?_)
  · refine ss_tupA (js := [6] ++ ([7] ++ [])) (α := PyData × PyData) (fun x => .tuple [x.1, x.2]) (fun x => isW x.1 = true ∧ isW x.2 = true) (fun x => ([Sl.v (.ref dl), .d (.list hs), .d dw, .d (.int k), .u, .u, .d x.1, .d x.2, .u, .u, .u, .u])) C6 ((de_of (ok_of T) r2 rfl rfl de_lit).imp ?_) (fun x _ => gd_tup rfl (gds_cons (gd_name 6 sc_L_form.nd) (gds_cons (gd_name 7 sc_L_form.nd) gds_nil)) rfl) (fun x σ7 H7 C7 _ hp => ?_)
    · intro d hd
      simp only [List.mem_cons, List.not_mem_nil, or_false] at hd
      rcases hd with e | e | e | e | e | e <;> exact ⟨(_, _), e, rfl, rfl⟩
    obtain ⟨a, b⟩ := x
    obtain ⟨ha, hb⟩ := hp
    dsimp only at ha hb C7
    refine ss_set 8 C7 (de_of (ok_of T) r2 rfl rfl de_lit) (fun dk σ8 H8 C8 _ hk => ?_) sc_L_form.nd
    have hk : isT dk = true := all_of (by decide) hk
    obtain ⟨xk, rfl⟩ := isT_str hk
    refine ss_set 9 C8 (P := fun d => ∃ a b, isW a = true ∧ isW b = true ∧ d = .tuple [a, b]) (de_if (be_eq (de_var 8 rfl) de_str (by walk_at "fl")) (fun _ => (de_tupE (da_consE (de_var 7 rfl) (da_consE (de_var 6 rfl) da_nilE))).imp fun d e => ⟨b, a, hb, ha, e⟩) (fun _ => (de_tupE (da_consE (de_var 6 rfl) (da_consE (de_var 7 rfl) da_nilE))).imp fun d e => ⟨a, b, ha, hb, e⟩)) (fun dd σ9 H9 C9 _ hdd => ?_) sc_L_form.nd
    obtain ⟨u, v, hu, hv, rfl⟩ := hdd
    exact ss_retM (post := FormD) (S0 := S0) C9 (de_tupE (da_consE de_str (da_consE (de_tupE (da_consE (de_var 8 rfl) (da_consE (de_ix (de_var 9 rfl) de_int rfl) (da_consE (de_ix (de_var 9 rfl) de_int rfl) da_nilE)))) (da_consE (de_tupE (da_consE (de_ix (de_var 9 rfl) de_int rfl) da_nilE)) (da_consE (de_ix (de_var 9 rfl) de_int rfl) da_nilE))))) hQ fun d e => ⟨_, _, _, _, e, .cast hk hu hv⟩
  refine ss_set 10 C6 (de_of (ok_of T) r2 rfl rfl (de_lstE (da_consE de_int (da_consE de_int (da_consE de_int (da_consE (de_var 2 rfl) da_nilE)))))) (fun dn σ7 H7 C7 _ hn => ?_) sc_L_form.nd
  have hn : isW dn = true := by
    simp only [List.mem_cons, List.not_mem_nil, or_false] at hn
    rcases hn with e | e | e | e
    · rw [e]; decide
    · rw [e]; decide
    · rw [e]; decide
    · rw [e]; exact hw
  refine ss_if C7 (be_eq (de_var 3 rfl) de_int (by walk_at "fl")) (fun H8 C8 _ _ => ?_) (fun H8 C8 _ _ => ss_nil ?_)
  · refine ss_retM (post := FormD) (S0 := S0) C8 (P := FormD) ?_ hQ fun d e => e
    refine (de_tupP (Ps := fun ds => ∃ o, ds = [.str "alloca", .tuple [dn, o], .tuple [], .str "ptr"]) ?_ ?_).imp fun d ⟨ds, e, o, e2⟩ => by
      subst e2
      exact ⟨_, _, _, _, e, .alloca hn⟩
    · refine (da_cons de_str (da_cons (de_tupP (Ps := fun ds => ∃ o, ds = [dn, o]) ((da_cons (de_var 10 rfl) (da_cons (de_opN0 (pr := fun _ => True) op_add (de_I de_int) (de_any (ok_any T) r1 rfl rfl de_int) fun _ _ _ _ => True.intro) da_nilE)).imp ?_) ?_) (da_consE (de_tupE da_nilE) (da_consE de_str da_nilE)))).imp ?_
      · rintro _ ⟨_, _, rfl, rfl, o, _, rfl, _, rfl⟩
        exact ⟨o, rfl⟩
      · rintro _ ⟨o, rfl⟩
        simp only [List.length_cons, List.length_nil]; decide
      · rintro _ ⟨_, _, rfl, rfl, _, _, rfl, ⟨_, rfl, o, rfl⟩, rfl⟩
        exact ⟨o, rfl⟩
    · rintro _ ⟨o, rfl⟩
      simp only [List.length_cons, List.length_nil]; decide
  refine ss_if C8 (be_eq (de_var 3 rfl) de_int (by walk_at "fl")) (fun H9 C9 _ _ => ?_) (fun H9 C9 _ _ => ss_nil ?_)
  · exact ss_retM (post := FormD) (S0 := S0) C9 (de_tupE (da_consE de_str (da_consE (de_tupE (da_consE (de_var 2 rfl) da_nilE)) (da_consE (de_tupE (da_consE de_str (da_consE (de_var 2 rfl) da_nilE))) (da_consE de_str da_nilE))))) hQ fun d e => ⟨_, _, _, _, e, .at_ hw⟩
  refine ss_if C9 (be_lt (de_var 3 rfl) de_int) (fun H10 C10 _ _ => ?_) (fun H10 C10 _ _ => ss_nil ?_)
  · exact ss_retM (post := FormD) (S0 := S0) (P := FormD) C10 (de_if (be_eq (de_var 3 rfl) de_int (by walk_at "fl")) (fun _ => (de_tupE (da_consE de_str (da_consE (de_tupE (da_consE (de_var 10 rfl) da_nilE)) (da_consE (de_tupE (da_consE de_str da_nilE)) (da_consE (de_var 10 rfl) da_nilE))))).imp fun d e => ⟨_, _, _, _, e, .load hn⟩) (fun _ => (de_tupE (da_consE de_str (da_consE (de_tupE (da_consE (de_var 10 rfl) da_nilE)) (da_consE (de_tupE (da_consE (de_var 10 rfl) (da_consE de_str da_nilE))) (da_consE de_non da_nilE))))).imp fun d e => ⟨_, _, _, _, e, .store hn⟩)) hQ fun d e => e
  refine ss_if C10 (be_lt (de_var 3 rfl) de_int) (fun H11 C11 _ _ => ?_) (fun H11 C11 _ _ => ss_nil ?_)
  · exact ss_retM (post := FormD) (S0 := S0) (P := FormD) C11 (de_if (be_eq (de_var 3 rfl) de_int (by walk_at "fl")) (fun _ => (de_tupE (da_consE de_str (da_consE (de_tupE (da_consE (de_var 2 rfl) da_nilE)) (da_consE (de_tupE (da_consE (de_var 2 rfl) da_nilE)) (da_consE de_non da_nilE))))).imp fun d e => ⟨_, _, _, _, e, .print hw⟩) (fun _ => (de_tupE (da_consE de_str (da_consE (de_tupE (da_consE (de_var 2 rfl) da_nilE)) (da_consE (de_tupE da_nilE) (da_consE (de_var 2 rfl) da_nilE))))).imp fun d e => ⟨_, _, _, _, e, .input hw⟩)) hQ fun d e => e
  refine ss_set 11 C11 (de_of (ok_of T) r2 rfl rfl (de_var 1 rfl) hne hlen) (fun dh σ12 H12 C12 _ hh => ?_) sc_L_form.nd
  obtain ⟨f, ts, t, rfl, hf, hts, hl3, ht⟩ := hhd dh hh
  exact ss_retM (post := FormD) (S0 := S0) C12 (de_tupE (da_consE de_str (da_consE (de_tupE (da_consE (de_ix (de_var 11 rfl) de_int rfl) da_nilE)) (da_consE (de_ix (de_var 11 rfl) de_int rfl) (da_consE (de_ix (de_var 11 rfl) de_int rfl) da_nilE))))) hQ fun d e => ⟨_, _, _, _, e, .call hf hts hl3 ht⟩
end
end K53
/-! text D14 -/
set_option Elab.async false
set_option linter.all false
set_option maxRecDepth 100000
set_option maxHeartbeats 1000000
namespace Dl
open PySem PySem.Spec PyProof.Rows L2
section
variable {X : Cx} {W : Wd} {S : List Addr} {G : List (Addr × MO)} {δ δ' δ'' : List Sl} {a b c e tg : Expr} {es : List Expr} {P Pa Pb : PyData → Prop} {pos : Pos} {σ : L2.St} {H H1 : Hp} {D : Ends} {r : List Stmt} {d x y : PyData} {ds l : List PyData} {js ks : List Nat} {m : List (Key × PyData)} {k : Key} {J : It} {S0 : List Addr}
theorem Ctx.u (i : Nat) (C : Ctx X.K W S G δ σ H) : Ctx X.K W S G (δ.set i .u) σ H := ⟨C.env.same i fun _ _ => True.intro, C.deal, C.ms, C.objs, C.trk, C.fr⟩
theorem Ctx.cast (C : Ctx X.K W S G δ σ H) (h : δ' = δ := by rfl) : Ctx X.K W S G δ' σ H := by rw [h]; exact C
theorem de_gtN {p q : Int → Prop} (ha : DE X W S G δ a (IsI p)) (hb : DE X W S G δ b (IsI q)) : DE X W S G δ (.Compare a [.Gt] [b] pos) (fun d => ∃ k, d = .bool k) := fun σ H C Q k =>
  EE.of (pe_cmp (pc_gt pee pee)) (ha σ H C _ fun u H1 da C1 s1 ⟨i, e1, _⟩ ra => hb σ H1 C1 _ fun w H2 db C2 s2 ⟨j, e2, _⟩ rb => by
    subst e1 e2
    have ra : u = .int i := ra
    have rb : w = .int j := rb
    subst ra rb
    exact ⟨i, j, rfl, rfl, k _ H2 (.bool _) C2 (s1.trans s2) ⟨_, rfl⟩ rfl⟩)
/-! walks whose items are told by a property -/
def ITP (X : Cx) (W : Wd) (S : List Addr) (G : List (Addr × MO)) (δ : List Sl) (tg e : Expr) (Pds : List PyData → Prop) : Prop := ∀ (σ : L2.St) (H : Hp), Ctx X.K W S G δ σ H → ∀ R : It → Hp → Prop, (∀ J H' ds, Pds ds → Ctx X.K W S G δ σ H' → Stp W.M H H' → DWalk X.K S H' J ds → R J H') → IEx X tg e σ H R
theorem IT.p (h : IT X W S G δ tg e ds) : ITP X W S G δ tg e (fun l => l = ds) := fun σ H C R q => h σ H C R fun J H' C' st w => q J H' ds rfl C' st w
theorem itp_data {Pds : List PyData → Prop} (he : DE X W S G δ e (fun z => ∃ ds, seqOf z = some ds ∧ Pds ds)) (hy : ∀ l : List PyData, (∃ v, seqOf v = some l) → True := by intros; trivial) (k : Nat) (ht : k = 0 → ∀ z ds, seqOf z = some ds → Pds ds → ∃ l, z = .list l) (ht1 : k ≠ 0 → ∀ z ds, seqOf z = some ds → Pds ds → ∃ l, z = .tuple l) : ITP X W S G δ tg e Pds := fun σ H C R q => by
  by_cases hk : k = 0
  · refine IEx.of (pi_list pee) (he σ H C _ fun v H1 d C1 s1 ⟨ds, e1, pd⟩ rv => ?_)
    obtain ⟨l, rfl⟩ := ht hk d ds e1 pd
    cases e1
    obtain ⟨p, xs, rfl, ht, rs⟩ := rv
    exact ⟨p, rfl, ⟨xs, .inl (.inl ht.2)⟩, q _ H1 _ pd C1 s1 (dw_list ht rs)⟩
  · refine IEx.of (pi_tup pee) (he σ H C _ fun v H1 d C1 s1 ⟨ds, e1, pd⟩ rv => ?_)
    obtain ⟨l, rfl⟩ := ht1 hk d ds e1 pd
    cases e1
    obtain ⟨p, xs, rfl, ht, rs⟩ := rv
    exact ⟨p, rfl, ⟨xs, ht.sq⟩, q _ H1 _ pd C1 s1 (dw_tup ht rs)⟩
theorem itp_list {Pds : List PyData → Prop} (he : DE X W S G δ e (fun z => ∃ ds, z = .list ds ∧ Pds ds)) : ITP X W S G δ tg e Pds := fun σ H C R q => by
  refine IEx.of (pi_list pee) (he σ H C _ fun v H1 d C1 s1 ⟨ds, e1, pd⟩ rv => ?_)
  subst e1
  obtain ⟨p, xs, rfl, ht, rs⟩ := rv
  exact ⟨p, rfl, ⟨xs, .inl (.inl ht.2)⟩, q _ H1 _ pd C1 s1 (dw_list ht rs)⟩
abbrev rng (n : Nat) : List PyData := (List.range n).map fun i : Nat => PyData.int (i : Int)
theorem rng_len (n : Nat) : (rng n).length = n := by simp [rng]
theorem rng_at {n i : Nat} {d : PyData} (h : (rng n)[i]? = some d) : i < n ∧ d = .int (i : Int) := by
  have hi : i < (rng n).length := (List.getElem?_eq_some_iff.mp h).1
  rw [rng_len] at hi
  rw [List.getElem?_map, List.getElem?_range hi] at h
  cases h
  exact ⟨hi, rfl⟩
theorem itp_range {Pn : Nat → Prop} {p1 p2 : Pos} (he : DE X W S G δ e (fun z => ∃ n : Nat, z = .int (n : Int) ∧ n ≤ 1000000 ∧ Pn n)) (hm : X.mg "range" = none) (hg : Gl X "range" := by rfl) (na : starEach [e] X.env = (false, eval e X.env) :: starEach [] X.env := by exact star_cons rfl) (nb : starEach [e] X.env = [(false, eval e X.env)] := by exact star_cons rfl) :
    ITP X W S G δ tg (.Call (.Name "range" p1) [e] [] p2) (fun ds => ∃ n, ds = rng n ∧ Pn n) := fun σ H C R q => by
  refine IEx.of (pi_range1 hg hm (pa_cons pee pa_nil na) nb) (he σ H C _ fun v H1 d C1 s1 ⟨n, e1, hn, pn⟩ rv => ?_)
  subst e1
  have rv : v = .int (n : Int) := rv
  subst rv
  refine ⟨n, rfl, by omega, by omega, ?_⟩
  have e0 : (n : Int).toNat = n := by omega
  rw [e0]
  refine q _ H1 _ ⟨n, rfl, pn⟩ C1 s1 ⟨fun _ => True, YFn fun i => .int (0 + i), ?_, fun _ _ => True.intro, fun i H x H' hi st yy => ?_⟩
  · rw [rng_len]; exact walk_range
  · obtain ⟨rfl, rfl⟩ := yy
    refine ⟨.refl, fun S' d m t hd => ?_⟩
    obtain ⟨_, rfl⟩ := rng_at hd
    show V.int (0 + (i : Int)) = V.int (i : Int)
    rw [Int.zero_add]
section
variable {γ : Type} (Gf : γ → List (Addr × MO)) (δf : γ → List Sl) (Pv : List PyData → Nat → γ → Prop)
abbrev NXP (K : PySem.W.Frag) (W : Wd) (S : List Addr) (ds : List PyData) (i : Nat) : L2.St → Hp → Prop := fun σ' H' => ∃ g, Pv ds i g ∧ Ctx K W S (Gf g) (δf g) σ' H'
theorem ss_forP (g0 : γ) {Pds : List PyData → Prop} {δt : γ → PyData → List Sl} {body : List Stmt} (C : Ctx X.K W S (Gf g0) (δf g0) σ H) (hi : ITP X W S (Gf g0) (δf g0) tg e Pds) (p0 : ∀ ds, Pds ds → Pv ds 0 g0)
    (hg : ∀ W' g d ds (i : Nat), Pds ds → ds[i]? = some d → GD X W' S (Gf g) js tg (δf g) d (δt g d))
    (hs : ∀ W' ds i d g σ' H', W'.M = W.M → Pds ds → ds[i]? = some d → Pv ds i g → Ctx X.K W' S (Gf g) (δt g d) σ' H' → SS X body { D with nx := NXP Gf δf Pv X.K W' S ds (i + 1), ct := NXP Gf δf Pv X.K W' S ds (i + 1), bk := SS X r D } σ' H')
    (hd : ∀ ds g σ' H', Pds ds → Pv ds ds.length g → Ctx X.K W S (Gf g) (δf g) σ' H' → SS X r D σ' H') (hc : X.calm = true) (hp : PassesOwn (model X.prog X.w) X.A X.env X.xe) (hf : ∀ x, foldedSetIterable e X.env x = pure x := by intro _; rfl) : SS X (.For tg e body [] pos :: r) D σ H := by
  refine ss_cons (S1.of (ps_for hp hc pie pge psse hf) (hi σ H C _ fun J H1 ds pds C1 s1 ⟨Gd, Y, hw, hG, hY⟩ => ?_))
  have C2 := C1.into
  have hM := C1.atS
  refine for_it hw (NXP Gf δf Pv X.K (W.at (Gf g0) H1) S ds) ⟨g0, p0 ds pds, C2⟩ (fun i σ' H' _ ⟨g, pv, C'⟩ => hG H' (C'.fr.mono hM)) (fun i x σ' H' H'' hi' ⟨g, pv, C'⟩ yy => ?_) (fun σ' H' ⟨g, pv, C'⟩ => hd ds g σ' H' pds pv (C1.outof C'))
  have st : Stp S H1 H' := C'.fr.mono hM
  obtain ⟨s2, hr⟩ := hY i H' x H'' hi' st yy
  have hd' : ds[i]? = some ds[i] := List.getElem?_eq_getElem hi'
  exact hg _ g _ ds i pds hd' σ' H'' x (C'.ext s2) (hr S _ (fun b o e n => ⟨st b o e n, n⟩) C'.trk hd') _ fun σ2 C2' _ => hs _ ds i _ g σ2 H'' rfl pds hd' pv C2'
end
/-- a comprehension over a walk told by a property -/
theorem ne_lcP {own : List (Str × Nat)} {scope : Scope} {elt iter : Expr} {ifs : List Expr} {Pds : List PyData → Prop} (he : ITP X W S G δ tg iter Pds) (hlen : ∀ ds, Pds ds → ds.length ≤ 999) (hj : ∀ j ∈ js, j ∈ own.map (·.2)) (R : List PyData → Nat → Option PyData → Prop)
    (ht : ∀ ds i d DA acc, Pds ds → DA ∉ S → ds[i]? = some d → LcTurn X scope W (DA :: S) ((DA, .lst acc) :: G) (wipeD δ (own.map (·.2))) tg ifs elt js d (R ds i))
    (hc : X.calm = true) (hN : X.N.Nodup) (ok : BlkOk X.N X.env.scope scope own) (hs : ∀ x, foldedSetIterable iter X.env x = pure x := by intro _; rfl) : NE X W S G δ (.ListComp elt [⟨tg, iter, ifs, 0⟩] scope pos) (fun es => ∃ ds, Pds ds ∧ LcRel (R ds) ds.length es) := fun σ H C Q q =>
  EE.of (pe_lcB hc hN pie ok hs) (he σ H C _ fun J H1 ds pds C1 s1 hw DA hDA => lc_dw hw C1 hDA (hlen ds pds) hj (R ds) (fun i d acc => ht ds i d DA acc pds) fun H' es xs C' s' hl rel rs => q DA H' es xs C' (s1.trans (stp_new hDA s')) (C.back C1 s1 hDA) hl ⟨ds, pds, rel⟩ rs)
end
end Dl
/-! text A6 -/
set_option Elab.async false
set_option linter.all false
set_option maxRecDepth 100000
set_option maxHeartbeats 1000000
namespace K53
open PySem PySem.Spec PyProof.Rows L2 Dl
local macro_rules | `(tactic| walk_at "fl") => `(tactic| first | rfl | assumption | (simp only [*]; done) | decide)
def nD (l : List Nat) : List PyData := l.map fun n : Nat => PyData.int (n : Int)
def webD (ts : List (List Nat)) : List PyData := ts.map fun l => .list (nD l)
theorem nD_snoc (l : List Nat) (n : Nat) : nD l ++ [.int (n : Int)] = nD (l ++ [n]) := by simp [nD]
theorem webD_snoc (ts : List (List Nat)) (l : List Nat) : webD ts ++ [.list (nD l)] = webD (ts ++ [l]) := by simp [webD]
theorem nD_len (l : List Nat) : (nD l).length = l.length := by simp [nD]
theorem webD_len (ts : List (List Nat)) : (webD ts).length = ts.length := by simp [webD]
/-- a web of n places -/
def Web (n : Nat) (ts : List (List Nat)) : Prop := ts.length = n ∧ ∀ l ∈ ts, l.length ≤ 2 ∧ ∀ t ∈ l, t < n
section
variable {P : Program} {w : World} {K : PySem.W.Frag} {mg : Str → Option Value} {base : Heap}
theorem ok_web (T : Txt K mg) : DefOk P w K mg base 3 "_law_web" ["_law_deal", "_law_many"] (spM K (fun (n : Nat) ds => ds = [.int (n : Int)] ∧ n ≤ 100) (fun n d => ∃ ts, d = .list (webD ts) ∧ Web n ts)) := by
  refine def_M T.F_L_web T.g_L_web b_L_web sc_L_web (by rintro n _ ⟨rfl, _⟩; rfl) ?_
  rintro X ⟨cdv, A, outer, s, H0, E, hr, rfl⟩ n S0 H dl cl ds σ Q C ⟨rfl, hn⟩ hQ
  have r2 : Room 2 (A.deeper (envOfC "_law_web" (defScope s_L_web) s.heap.objs.size (He.ga K "_law_web") cdv)) := hr
  have r1 : Room 1 (A.deeper (envOfC "_law_web" (defScope s_L_web) s.heap.objs.size (He.ga K "_law_web") cdv)) := hr.mono (by decide)
  refine ss_setN 2 C ne_nil (fun p d0 σ1 H1 hp C1 _ e1 => ?_) sc_L_web.nd
  subst e1
  refine ss_forI (γ := List (List Nat)) (js := [3]) (fun ts => [(p, .lst (webD ts))]) (fun _ => [.v (.ref dl), .d (.int n), .v (.ref p), .u, .u, .u, .u]) (fun i ts => ts.length = i ∧ ∀ l ∈ ts, l.length ≤ 2 ∧ ∀ t ∈ l, t < n) [] (δt := fun _ d => [.v (.ref dl), .d (.int n), .v (.ref p), .d d, .u, .u, .u]) C1
    (it_range (n := n) (de_var 1 rfl) (by omega) T.n_range) ⟨rfl, by simp⟩ (fun W' g d => gd_name 3 sc_L_web.nd) ?_ ?_ rfl PassesOwn.never
  · rintro W1 i d ts σ2 H2 hW1 hd ⟨hl, hts⟩ C2
    obtain ⟨hi, rfl⟩ := rng_at hd
    refine ss_setN 4 C2 ne_nil (fun q d0 σ3 H3 hq C3 _ e3 => ?_) sc_L_web.nd
    subst e3
    refine ss_forP (γ := List Nat) (js := [5]) (fun l => [(q, .lst (nD l)), (p, .lst (webD ts))]) (fun _ => [.v (.ref dl), .d (.int n), .v (.ref p), .d (.int i), .v (.ref q), .u, .u]) (fun ds j l => l.length = j ∧ ∀ t ∈ l, t < n) [] (Pds := fun ds => ∃ k, ds = rng k ∧ k ≤ 2 ∧ (n ≤ 1 → k = 0)) (δt := fun _ d => [.v (.ref dl), .d (.int n), .v (.ref p), .d (.int i), .v (.ref q), .d d, .u]) C3
      (itp_range (Pn := fun k => k ≤ 2 ∧ (n ≤ 1 → k = 0)) (de_if (be_gt (de_var 1 rfl) de_int) (fun h => (de_of (ok_of T) r2 hW1 rfl de_lit).imp fun d hd => ?_) (fun h => de_int.imp fun d e => ⟨0, e, by omega, by omega, fun _ => rfl⟩)) T.n_range) (fun _ _ => ⟨rfl, by simp⟩) (fun W' g d ds i _ _ => gd_name 5 sc_L_web.nd) ?_ ?_ rfl PassesOwn.never
    · have hn1 : ¬ n ≤ 1 := by
        have := h
        simp only [true_eq_decide_iff] at this
        omega
      simp only [List.mem_cons, List.not_mem_nil, or_false] at hd
      rcases hd with e | e | e | e | e | e
      · exact ⟨0, e, by omega, by omega, fun z => absurd z hn1⟩
      · exact ⟨1, e, by omega, by omega, fun z => absurd z hn1⟩
      · exact ⟨1, e, by omega, by omega, fun z => absurd z hn1⟩
      · exact ⟨2, e, by omega, by omega, fun z => absurd z hn1⟩
      · exact ⟨2, e, by omega, by omega, fun z => absurd z hn1⟩
      · exact ⟨2, e, by omega, by omega, fun z => absurd z hn1⟩
    · rintro W2 _ j d l σ4 H4 hW2 ⟨k, rfl, hk, hk1⟩ hd ⟨hlj, hlt⟩ C4
      obtain ⟨hj, rfl⟩ := rng_at hd
      have hW : W2.M = [dl, cl] := hW2.trans hW1
      have n2 : 2 ≤ n := by
        by_cases z : n ≤ 1
        · have := hk1 z; omega
        · omega
      refine ss_set 6 (P := fun d => ∃ b : Bool, d = .bool b ∧ (b = true → i + 1 < n)) C4 (de_and2 (P2 := fun _ => True) (P1 := fun b => b = true → i + 1 < n) ((de_lt (de_add (de_var 3 rfl) de_int) (de_var 1 rfl)).imp fun d e => ⟨_, e, fun h => by simp only [decide_eq_true_eq] at h; omega⟩) (fun h => (de_gtN (de_any (ok_any T) r1 hW rfl de_int) (de_I de_int)).imp fun d ⟨b, e⟩ => ⟨b, e, fun _ => h rfl⟩) (fun _ => ⟨false, rfl, fun z => by cases z⟩)) (fun d σ5 H5 C5 _ ⟨b, e, hb⟩ => ?_) sc_L_web.nd
      subst e
      refine ss_append 4 (P := fun d => ∃ t : Nat, d = .int (t : Int) ∧ t < n) C5 rfl (by rw [nD_len]; omega) (fun q' hq' e => by
        simp only [List.mem_cons, List.not_mem_nil, or_false] at hq'
        subst hq'
        exact hq (by rw [← e]; exact List.mem_cons_self)) (de_if (be_valE (de_var 6 rfl)) (fun h => (de_add (de_var 3 rfl) de_int).imp fun d e => ⟨i + 1, by rw [e]; rfl, hb h.symm⟩) (fun _ => (de_opN0 (pr := fun z => 1 ≤ z ∧ z < n) op_add (de_I de_int) (de_any (ok_any T) r1 hW rfl (de_sub (de_var 1 rfl) de_int) (by omega) (by omega)) (fun u v hu hv => by omega)).imp fun d ⟨z, e, h1, h2⟩ => ⟨z.toNat, by rw [e, Int.toNat_of_nonneg (by omega)], by omega⟩)) (fun d σ6 H6 C6 _ ⟨t, e, ht⟩ => ?_)
      subst e
      refine ss_nil ⟨l ++ [t], ⟨by rw [List.length_append, hlj]; rfl, fun u hu => ?_⟩, ?_⟩
      · rcases List.mem_append.mp hu with h | h
        · exact hlt u h
        · rw [List.mem_singleton.mp h]; exact ht
      · rw [nD_snoc] at C6
        exact (C6.u 5).u 6
    · rintro _ l σ4 H4 ⟨k, rfl, hk, _⟩ ⟨hlj, hlt⟩ C4
      rw [rng_len] at hlj
      have hpS : ∀ r ∈ [(p, MO.lst (webD ts))], r.1 ∈ p :: S0 := fun r hr => by
        rw [List.mem_singleton.mp hr]; exact List.mem_cons_self
      have C5 := C4.solid 4 hq hpS (fun a ha => (C2.ms a ha).1) rfl
      refine ss_append 2 C5 rfl (by rw [webD_len]; omega) (fun q' hq' => by cases hq') (de_var 4 rfl) (fun d σ6 H6 C6 _ e => ?_)
      subst e
      refine ss_nil ⟨ts ++ [l], ⟨by rw [List.length_append, hl]; rfl, fun u hu => ?_⟩, ?_⟩
      · rcases List.mem_append.mp hu with h | h
        · exact hts u h
        · rw [List.mem_singleton.mp h]
          exact ⟨by omega, hlt⟩
      · rw [webD_snoc] at C6
        exact (C6.u 3).u 4
  · rintro ts σ2 H2 ⟨hl, hts⟩ C2
    rw [List.length_map, List.length_range] at hl
    have C3 := C2.solid 2 hp (by simp) (fun a ha => (C.ms a ha).1) rfl
    exact ss_retM (S0 := S0) C3 (de_var 2 rfl) hQ fun d e => ⟨ts, e, hl, hts⟩
end
end K53
/-! text A7 -/
set_option Elab.async false
set_option linter.all false
set_option maxRecDepth 100000
set_option maxHeartbeats 1000000
namespace K53
open PySem PySem.Spec PyProof.Rows L2 Dl
local macro_rules | `(tactic| walk_at "fl") => `(tactic| first | rfl | assumption | (simp only [*]; done) | decide)
theorem nD_flat (l : List Nat) : (nD l).all flat = true := by
  rw [List.all_eq_true]
  intro x hx
  obtain ⟨n, _, e⟩ := List.mem_map.mp hx
  rw [← e]; rfl
theorem inV_nD (t : Nat) : ∀ l : List Nat, inV (fV (.int (t : Int))) ((nD l).map fV) = decide (t ∈ l)
  | [] => by simp [inV, nD]
  | a :: l => by
    have ih := inV_nD t l
    have e : inV (fV (.int (t : Int))) ((nD (a :: l)).map fV) = (eqV (.int (a : Int)) (.int (t : Int)) || inV (fV (.int (t : Int))) ((nD l).map fV)) := rfl
    rw [e, ih]
    by_cases h : t = a
    · subst h; simp [eqV]
    · have h2 : ¬ (a : Int) = (t : Int) := fun z => h (by omega)
      simp [eqV, h, h2]
/-- the places that ways from the first one lead to -/
inductive Reach (ts : List (List Nat)) : Nat → Prop
  | base : Reach ts 0
  | step {x t : Nat} {l : List Nat} : Reach ts x → ts[x]? = some l → t ∈ l → Reach ts t
theorem nodup_le : ∀ {n : Nat} {l : List Nat}, l.Nodup → (∀ x ∈ l, x < n) → l.length ≤ n
  | 0, l, h, hl => by
    cases l with
    | nil => exact Nat.le_refl _
    | cons a l => exact absurd (hl a List.mem_cons_self) (by omega)
  | n + 1, l, h, hl => by
    by_cases hm : n ∈ l
    · have h1 := nodup_le (n := n) (l := l.erase n) (h.erase n) fun x hx => by
        rw [h.mem_erase_iff] at hx
        have := hl x hx.2
        have := hx.1
        omega
      rw [List.length_erase_of_mem hm] at h1
      omega
    · have h1 := nodup_le (n := n) h fun x hx => by
        have := hl x hx
        have : x ≠ n := fun e => hm (by rw [← e]; exact hx)
        omega
      omega
structure RInv (ts : List (List Nat)) (wo : Int) (i : Nat) (o : List Nat) : Prop where
  nd : o.Nodup
  lt : ∀ x ∈ o, x < ts.length
  rc : ∀ x ∈ o, Reach ts x
  z : wo < 0 → 0 ∈ o
  cl : ∀ (j x : Nat) (l : List Nat), j < i → o[j]? = some x → ts[x]? = some l → ∀ t ∈ l, wo < 0 → t ∈ o
theorem RInv.done {ts : List (List Nat)} {wo : Int} {o : List Nat} (h : RInv ts wo ts.length o) (hw : wo < 0) : ∀ x, Reach ts x → x ∈ o := by
  intro x hx
  induction hx with
  | base => exact h.z hw
  | @step x t l _ e1 e2 ih =>
    obtain ⟨j, hj⟩ := List.mem_iff_getElem?.mp ih
    have h1 : j < o.length := (List.getElem?_eq_some_iff.mp hj).1
    have h2 := nodup_le h.nd h.lt
    exact h.cl j x l (by omega) hj e1 t e2 hw
section
variable {X : Cx} {W : Wd} {S : List Addr} {G : List (Addr × MO)} {δ : List Sl} {a b c : Expr} {pos : Pos}
theorem ne_if {Pt : Bool → Prop} {Ps : List PyData → Prop} (hc : BE X W S G δ c Pt) (ha : Pt true → NE X W S G δ a Ps) (hb : Pt false → NE X W S G δ b Ps) : NE X W S G δ (.IfExp c a b pos) Ps := fun σ H C Q q =>
  EE.of (pe_ifExp pet pee pee) (hc σ H C _ fun k H1 C1 s1 pk => by
    cases k with
    | true => exact iteT (ha pk σ H1 C1 Q fun p H' ds xs C' st hp hl pd r => q p H' ds xs C' (s1.trans st) (C.back C1 s1 hp) hl pd r)
    | false => exact iteF (hb pk σ H1 C1 Q fun p H' ds xs C' st hp hl pd r => q p H' ds xs C' (s1.trans st) (C.back C1 s1 hp) hl pd r))
end
section
variable {P : Program} {w : World} {K : PySem.W.Frag} {mg : Str → Option Value} {base : Heap}
abbrev preReached (x : List (List Nat) × Int) (ds : List PyData) : Prop := ds = [.list (webD x.1), .int x.2] ∧ x.1.length ≤ 100 ∧ 0 < x.1.length ∧ Web x.1.length x.1
abbrev postReached (x : List (List Nat) × Int) (d : PyData) : Prop := ∃ o : List Nat, d = .list (nD o) ∧ o.Nodup ∧ (∀ y ∈ o, y < x.1.length) ∧ (∀ y ∈ o, Reach x.1 y) ∧ (x.2 < 0 → ∀ y, Reach x.1 y → y ∈ o)
theorem ok_reached (T : Txt K mg) : DefOk P w K mg base 1 "_law_reached" ["_law_web_here", "_law_without"] (spP K preReached postReached) := by
  refine def_P T.F_L_reached T.g_L_reached b_L_reached sc_L_reached (by rintro n _ ⟨rfl, _⟩; rfl) ?_
  rintro X ⟨cdv, A, outer, s, H0, E, hr, rfl⟩ ⟨ts, wo⟩ S0 H ds σ Q C ⟨rfl, hn, hn0, hweb⟩ hQ
  dsimp only at hn hn0 hweb C hQ
  refine ss_setN 2 C (Ps := fun ds => ∃ o, ds = nD o ∧ RInv ts wo 0 o) (ne_if (be_eq (de_var 1 rfl) de_int (by walk_at "fl")) (fun e => ne_nil.imp fun d h => ⟨[], h, ?_⟩) (fun e => (ne_lst (da_consE de_int da_nilE) (fun ds e => by rw [e]; decide)).imp fun d h => ⟨[0], h, ?_⟩)) (fun p d0 σ1 H1 hp C1 _ ⟨o0, e1, i0⟩ => ?_) sc_L_reached.nd
  · have hz : wo = 0 := by
      have e : true = decide (V.int wo = V.int 0) := e
      simp only [true_eq_decide_iff, V.int.injEq] at e
      exact e
    exact ⟨List.nodup_nil, by simp, by simp, fun h => by omega, fun j x l h => by omega⟩
  · exact ⟨by simp, fun x hx => by rw [List.mem_singleton.mp hx]; exact hn0, fun x hx => by rw [List.mem_singleton.mp hx]; exact .base, fun _ => by simp, fun j x l h => by omega⟩
  subst e1
  refine ss_forI (γ := List Nat) (js := [3]) (fun o => [(p, .lst (nD o))]) (fun _ => [.d (.list (webD ts)), .d (.int wo), .v (.ref p), .u, .u]) (RInv ts wo) o0 (δt := fun _ d => [.d (.list (webD ts)), .d (.int wo), .v (.ref p), .d d, .u]) (ds := rng ts.length) C1
    (it_range (n := ts.length) ((de_len T.n_len (de_var 0 rfl).dr rfl).imp fun d e => by rw [e, webD_len]) (by omega) T.n_range) i0 (fun W' g d => gd_name 3 sc_L_reached.nd) ?_ ?_ rfl PassesOwn.never
  · rintro W1 i d o σ2 H2 hW1 hd ri C2
    obtain ⟨hi, rfl⟩ := rng_at hd
    refine ss_if C2 (be_lt (de_var 3 rfl) (de_len T.n_len (dr_m 2 rfl List.mem_cons_self) rfl)) (fun H3 C3 _ e => ?_) (fun H3 C3 _ e => ?_)
    · have hio : i < o.length := by
        rw [nD_len] at e
        simp only [true_eq_decide_iff] at e
        omega
      obtain ⟨x, hx⟩ : ∃ x, o[i]? = some x := ⟨o[i], List.getElem?_eq_getElem hio⟩
      have hxl := ri.lt x (List.mem_of_getElem? hx)
      obtain ⟨l, hl⟩ : ∃ l, ts[x]? = some l := ⟨ts[x], List.getElem?_eq_getElem hxl⟩
      have hlt := (hweb.2 l (List.mem_of_getElem? hl)).2
      have hlen := (hweb.2 l (List.mem_of_getElem? hl)).1
      refine ss_forI (γ := List Nat) (js := [4]) (fun o => [(p, .lst (nD o))]) (fun _ => [.d (.list (webD ts)), .d (.int wo), .v (.ref p), .d (.int i), .u]) (fun j o' => RInv ts wo i o' ∧ o <+: o' ∧ ∀ t ∈ l.take j, wo < 0 → t ∈ o') o (δt := fun _ d => [.d (.list (webD ts)), .d (.int wo), .v (.ref p), .d (.int i), .d d]) (ds := nD l) C3
        (it_data (y := .list (nD l)) (de_ix (da := .list (webD ts)) (di := .int x) (de_var 0 rfl) (de_ixM (d := .int x) 2 rfl List.mem_cons_self (de_var 3 rfl) (by show (nD o)[i]? = _; simp [nD, hx])) (by show (webD ts)[x]? = _; simp [webD, hl])) rfl) ⟨ri, List.prefix_rfl, by simp⟩ (fun W' g d => gd_name 4 sc_L_reached.nd) ?_ ?_ rfl PassesOwn.never
      · rintro W2 j d o' σ4 H4 hW2 hd' ⟨ri', hpre, hpart⟩ C4
        obtain ⟨t, ht, rfl⟩ : ∃ t : Nat, l[j]? = some t ∧ d = .int (t : Int) := by
          rw [nD, List.getElem?_map] at hd'
          cases q : l[j]? with
          | none => rw [q] at hd'; cases hd'
          | some t => rw [q] at hd'; cases hd'; exact ⟨t, rfl, rfl⟩
        have htl : t < ts.length := hlt t (List.mem_of_getElem? ht)
        have htake : l.take (j + 1) = l.take j ++ [t] := by rw [List.take_add_one, ht]; rfl
        refine ss_if C4 (be_andE (be_ne (de_var 4 rfl) (de_var 1 rfl) (by walk_at "fl")) (fun _ => be_notinM rfl (de_var 4 rfl) (dr_m 2 rfl List.mem_cons_self) rfl (nD_flat o'))) (fun H5 C5 _ e5 => ?_) (fun H5 C5 _ e5 => ?_)
        · rw [inV_nD] at e5
          have hnt : t ∉ o' := by
            intro hin
            simp [hin] at e5
          refine ss_append 2 C5 rfl ?_ (by simp) (de_var 4 rfl) (fun d σ6 H6 C6 _ e => ?_)
          · rw [nD_len]
            have := nodup_le ri'.nd ri'.lt
            omega
          subst e
          refine ss_nil (ss_nil ⟨o' ++ [t], ⟨⟨?_, ?_, ?_, ?_, ?_⟩, ?_, ?_⟩, ?_⟩)
          · exact List.nodup_append.mpr ⟨ri'.nd, by simp, fun a ha b hb e => hnt (by rw [← List.mem_singleton.mp hb, ← e]; exact ha)⟩
          · intro y hy
            rcases List.mem_append.mp hy with h | h
            · exact ri'.lt y h
            · rw [List.mem_singleton.mp h]; exact htl
          · intro y hy
            rcases List.mem_append.mp hy with h | h
            · exact ri'.rc y h
            · rw [List.mem_singleton.mp h]
              exact .step (ri.rc x (List.mem_of_getElem? hx)) hl (List.mem_of_getElem? ht)
          · exact fun h => List.mem_append_left _ (ri'.z h)
          · intro j' y l' hj' hy hl' t' ht' hw
            have hol : j' < o'.length := by
              have := hpre.length_le
              omega
            rw [List.getElem?_append_left hol] at hy
            exact List.mem_append_left _ (ri'.cl j' y l' hj' hy hl' t' ht' hw)
          · exact hpre.trans (List.prefix_append _ _)
          · intro u hu hw
            rw [htake] at hu
            rcases List.mem_append.mp hu with h | h
            · exact List.mem_append_left _ (hpart u h hw)
            · exact List.mem_append_right _ h
          · rw [nD_snoc] at C6
            exact C6.u 4
        · refine ss_nil (ss_nil ⟨o', ⟨ri', hpre, fun u hu hw => ?_⟩, C5.u 4⟩)
          rw [htake] at hu
          rcases List.mem_append.mp hu with h | h
          · exact hpart u h hw
          · rw [List.mem_singleton.mp h]
            rw [inV_nD] at e5
            have hne : ¬ (V.int (t : Int) = V.int wo) := fun z => by
              simp only [V.int.injEq] at z
              omega
            have e5 : false = ((!decide (V.int (t : Int) = V.int wo)) && !decide (t ∈ o')) := e5
            simpa [hne] using e5
      · rintro o' σ4 H4 ⟨ri', hpre, hpart⟩ C4
        rw [nD_len, List.take_length] at hpart
        refine ss_nil (ss_nil ⟨o', ⟨ri'.nd, ri'.lt, ri'.rc, ri'.z, fun j y l' hj hy hl' t ht hw => ?_⟩, C4.u 3⟩)
        by_cases hji : j < i
        · exact ri'.cl j y l' hji hy hl' t ht hw
        · have e : j = i := by omega
          subst e
          have hx' : o'[j]? = some x := by
            obtain ⟨r, hr⟩ := hpre
            rw [← hr, List.getElem?_append_left hio]; exact hx
          rw [hx'] at hy
          cases hy
          rw [hl] at hl'
          cases hl'
          exact hpart t ht hw
    · refine ss_nil (ss_nil ⟨o, ⟨ri.nd, ri.lt, ri.rc, ri.z, fun j y l hj hy hl t ht hw => ?_⟩, C3.u 3⟩)
      have hio : ¬ i < o.length := by
        rw [nD_len] at e
        simp only [false_eq_decide_iff] at e
        omega
      have hj2 : j < o.length := (List.getElem?_eq_some_iff.mp hy).1
      exact ri.cl j y l (by omega) hy hl t ht hw
  · rintro o σ2 H2 ri C2
    rw [rng_len] at ri
    have C3 := C2.solid 2 hp (by simp) (fun a ha => (C.ms a ha).1) rfl
    exact ss_retP (S0 := S0) C3 (de_var 2 rfl) hQ fun d e => ⟨o, e, ri.nd, ri.lt, ri.rc, fun h => ri.done h⟩
end
end K53
/-! text D15 -/
set_option Elab.async false
set_option linter.all false
set_option maxRecDepth 100000
set_option maxHeartbeats 1000000
namespace Dl
open PySem PySem.Spec PyProof.Rows L2
/-! ### the comprehensions of a def, in order -/
def scE : Nat → Expr → List Scope
  | 0, _ => []
  | n + 1, e => match e with
    | .ListComp elt gens sc _ => sc :: (scE n elt ++ gens.flatMap fun g => scE n g.iter ++ g.ifs.flatMap (scE n))
    | .DictComp k v gens sc _ => sc :: (scE n k ++ (scE n v ++ gens.flatMap fun g => scE n g.iter ++ g.ifs.flatMap (scE n)))
    | .BoolOp _ vs _ => vs.flatMap (scE n)
    | .BinOp a _ b _ => scE n a ++ scE n b
    | .UnaryOp _ a _ => scE n a
    | .IfExp a b c _ => scE n a ++ (scE n b ++ scE n c)
    | .Compare a _ cs _ => scE n a ++ cs.flatMap (scE n)
    | .Call f as kws _ => scE n f ++ (as.flatMap (scE n) ++ kws.flatMap fun k => scE n k.value)
    | .Attribute a _ _ => scE n a
    | .Subscript a b _ => scE n a ++ scE n b
    | .List es _ => es.flatMap (scE n)
    | .Tuple es _ _ => es.flatMap (scE n)
    | .Dict _ vs _ => vs.flatMap (scE n)
    | _ => []
def scS : Nat → Stmt → List Scope
  | 0, _ => []
  | n + 1, s => match s with
    | .Assign _ v _ => scE 30 v
    | .AugAssign _ _ v _ => scE 30 v
    | .Expr v _ => scE 30 v
    | .Return (some v) _ => scE 30 v
    | .If c a b _ => scE 30 c ++ (a.flatMap (scS n) ++ b.flatMap (scS n))
    | .For _ i b _ _ => scE 30 i ++ b.flatMap (scS n)
    | .While c b _ _ => scE 30 c ++ b.flatMap (scS n)
    | _ => []
def scs (body : List Stmt) (i : Nat) : Scope := (body.flatMap (scS 20)).getD i default
section
variable {X : Cx} {W : Wd} {S : List Addr} {G : List (Addr × MO)} {δ δ' δ'' : List Sl} {a b c e tg : Expr} {es : List Expr} {P Pa Pb : PyData → Prop} {pos : Pos} {σ : L2.St} {H H1 : Hp} {D : Ends} {r : List Stmt} {d x y : PyData} {ds l : List PyData} {js ks : List Nat} {m : List (Key × PyData)} {k : Key} {J : It} {S0 : List Addr}
theorem LcRel.mem {R : Nat → Option PyData → Prop} {Q : PyData → Prop} (h : ∀ i e, R i (some e) → Q e) : ∀ {n : Nat} {es : List PyData}, LcRel R n es → ∀ e ∈ es, Q e
  | 0, es, q => by
    have q : es = [] := q
    rw [q]; simp
  | n + 1, es, q => by
    rcases q with ⟨_, q⟩ | ⟨es', e, rfl, r, q⟩
    · exact LcRel.mem h q
    · intro e' he
      rcases List.mem_append.mp he with z | z
      · exact LcRel.mem h q e' z
      · rw [List.mem_singleton.mp z]; exact h n e r
theorem be_eqN {p q : Int → Prop} (ha : DE X W S G δ a (IsI p)) (hb : DE X W S G δ b (IsI q)) : BE X W S G δ (.Compare a [.Eq] [b] pos) (fun _ => True) := fun σ H C Q k =>
  ET.of (pt_cmp (pc_eqI pee pee)) (ha σ H C _ fun u H1 da C1 s1 ⟨i, e1, _⟩ ra => hb σ H1 C1 _ fun w H2 db C2 s2 ⟨j, e2, _⟩ rb => by
    subst e1 e2
    have ra : u = .int i := ra
    have rb : w = .int j := rb
    subst ra rb
    exact ⟨i, j, rfl, rfl, _, rfl, k _ H2 C2 (s1.trans s2) True.intro⟩)
end
end Dl
/-! text B53 -/
set_option Elab.async false
set_option linter.all false
set_option maxRecDepth 100000
set_option maxHeartbeats 1000000
namespace K53
open PySem PySem.Spec PyProof.Rows L2 Dl
theorem bk_web_of_0 : BlkOk ["function", "label", "params", "ops", "end"] (defScope s_web_of) (scs (defBody s_web_of) 0) [("label", 1), ("params", 2), ("ops", 3), ("end", 4)] := ⟨by decide +kernel, by decide +kernel, by decide +kernel, by decide +kernel, by decide +kernel⟩
theorem bk_reached_ops_0 : BlkOk ["function", "reached", "ops", "block", "op"] (defScope s_reached_ops) (scs (defBody s_reached_ops) 0) [("block", 3), ("op", 4)] := ⟨by decide +kernel, by decide +kernel, by decide +kernel, by decide +kernel, by decide +kernel⟩
theorem bk_reached_ops_1 : BlkOk ["function", "reached", "ops", "block", "op"] (defScope s_reached_ops) (scs (defBody s_reached_ops) 1) [("op", 4)] := ⟨by decide +kernel, by decide +kernel, by decide +kernel, by decide +kernel, by decide +kernel⟩
theorem bk_heights_0 : BlkOk ["ops", "found", "waiting", "value", "args", "arg", "open_args"] (defScope s_heights) (scs (defBody s_heights) 0) [("arg", 5)] := ⟨by decide +kernel, by decide +kernel, by decide +kernel, by decide +kernel, by decide +kernel⟩
theorem bk_heights_1 : BlkOk ["ops", "found", "waiting", "value", "args", "arg", "open_args"] (defScope s_heights) (scs (defBody s_heights) 1) [("arg", 5)] := ⟨by decide +kernel, by decide +kernel, by decide +kernel, by decide +kernel, by decide +kernel⟩
theorem bk_heights_2 : BlkOk ["ops", "found", "waiting", "value", "args", "arg", "open_args"] (defScope s_heights) (scs (defBody s_heights) 2) [("arg", 5)] := ⟨by decide +kernel, by decide +kernel, by decide +kernel, by decide +kernel, by decide +kernel⟩
theorem bk_weight_0 : BlkOk ["function", "ops", "op"] (defScope s_weight) (scs (defBody s_weight) 0) [("op", 2)] := ⟨by decide +kernel, by decide +kernel, by decide +kernel, by decide +kernel, by decide +kernel⟩
theorem bk_L_draw_0 : BlkOk ["_law_script", "_law_salt", "_law_cells", "_law_cell", "_law_blend"] (defScope s_L_draw) (scs (defBody s_L_draw) 0) [("_law_cell", 3)] := ⟨by decide +kernel, by decide +kernel, by decide +kernel, by decide +kernel, by decide +kernel⟩
theorem bk_L_draw_1 : BlkOk ["_law_script", "_law_salt", "_law_cells", "_law_cell", "_law_blend"] (defScope s_L_draw) (scs (defBody s_L_draw) 1) [("_law_cell", 3)] := ⟨by decide +kernel, by decide +kernel, by decide +kernel, by decide +kernel, by decide +kernel⟩
theorem bk_L_operand_0 : BlkOk ["_law_deal", "_law_here", "_law_wanted", "_law_names", "_law_some", "_law_value", "_law_sort", "_law_name"] (defScope s_L_operand) (scs (defBody s_L_operand) 0) [("_law_value", 5), ("_law_sort", 6)] := ⟨by decide +kernel, by decide +kernel, by decide +kernel, by decide +kernel, by decide +kernel⟩
theorem bk_L_operand_1 : BlkOk ["_law_deal", "_law_here", "_law_wanted", "_law_names", "_law_some", "_law_value", "_law_sort", "_law_name"] (defScope s_L_operand) (scs (defBody s_L_operand) 1) [("_law_name", 7)] := ⟨by decide +kernel, by decide +kernel, by decide +kernel, by decide +kernel, by decide +kernel⟩
theorem bk_L_operands_0 : BlkOk ["_law_deal", "_law_here", "_law_types", "_law_names", "_law_wanted"] (defScope s_L_operands) (scs (defBody s_L_operands) 0) [("_law_wanted", 4)] := ⟨by decide +kernel, by decide +kernel, by decide +kernel, by decide +kernel, by decide +kernel⟩
theorem bk_L_block_0 : BlkOk ["_law_deal", "_law_place", "_law_scene", "_law_here", "_law_headers", "_law_names", "_law_heads", "_law_labels", "_law_numbers", "_law_web_here", "_law_result", "_law_params", "_law_sort", "_law_ops", "_law_turn", "_law_kind", "_law_info", "_law_wanted", "_law_args", "_law_targets", "_law_other", "_law_ending"] (defScope s_L_block) (scs (defBody s_L_block) 0) [("_law_sort", 12)] := ⟨by decide +kernel, by decide +kernel, by decide +kernel, by decide +kernel, by decide +kernel⟩
theorem bk_L_block_1 : BlkOk ["_law_deal", "_law_place", "_law_scene", "_law_here", "_law_headers", "_law_names", "_law_heads", "_law_labels", "_law_numbers", "_law_web_here", "_law_result", "_law_params", "_law_sort", "_law_ops", "_law_turn", "_law_kind", "_law_info", "_law_wanted", "_law_args", "_law_targets", "_law_other", "_law_ending"] (defScope s_L_block) (scs (defBody s_L_block) 1) [("_law_other", 20)] := ⟨by decide +kernel, by decide +kernel, by decide +kernel, by decide +kernel, by decide +kernel⟩
theorem bk_L_function_0 : BlkOk ["_law_deal", "_law_header", "_law_headers", "_law_names", "_law_many", "_law_web_here", "_law_heads", "_law_turn", "_law_at", "_law_numbers", "_law_scene", "_law_near", "_law_blocks", "_law_made_here", "_law_place", "_law_here", "_law_other", "_law_ahead", "_law_order"] (defScope s_L_function) (scs (defBody s_L_function) 0) [("_law_at", 8)] := ⟨by decide +kernel, by decide +kernel, by decide +kernel, by decide +kernel, by decide +kernel⟩
theorem bk_L_function_2 : BlkOk ["_law_deal", "_law_header", "_law_headers", "_law_names", "_law_many", "_law_web_here", "_law_heads", "_law_turn", "_law_at", "_law_numbers", "_law_scene", "_law_near", "_law_blocks", "_law_made_here", "_law_place", "_law_here", "_law_other", "_law_ahead", "_law_order"] (defScope s_L_function) (scs (defBody s_L_function) 2) [("_law_at", 8)] := ⟨by decide +kernel, by decide +kernel, by decide +kernel, by decide +kernel, by decide +kernel⟩
theorem bk_L_function_3 : BlkOk ["_law_deal", "_law_header", "_law_headers", "_law_names", "_law_many", "_law_web_here", "_law_heads", "_law_turn", "_law_at", "_law_numbers", "_law_scene", "_law_near", "_law_blocks", "_law_made_here", "_law_place", "_law_here", "_law_other", "_law_ahead", "_law_order"] (defScope s_L_function) (scs (defBody s_L_function) 3) [("_law_place", 14)] := ⟨by decide +kernel, by decide +kernel, by decide +kernel, by decide +kernel, by decide +kernel⟩
theorem bk_L_module_0 : BlkOk ["_law_deal", "_law_headers", "_law_name", "_law_types", "_law_turn", "_law_names", "_law_told", "_law_width", "_law_size", "_law_functions", "_law_header"] (defScope s_L_module) (scs (defBody s_L_module) 0) [("_law_turn", 4)] := ⟨by decide +kernel, by decide +kernel, by decide +kernel, by decide +kernel, by decide +kernel⟩
theorem bk_L_module_1 : BlkOk ["_law_deal", "_law_headers", "_law_name", "_law_types", "_law_turn", "_law_names", "_law_told", "_law_width", "_law_size", "_law_functions", "_law_header"] (defScope s_L_module) (scs (defBody s_L_module) 1) [("_law_turn", 4)] := ⟨by decide +kernel, by decide +kernel, by decide +kernel, by decide +kernel, by decide +kernel⟩
theorem bk_L_module_2 : BlkOk ["_law_deal", "_law_headers", "_law_name", "_law_types", "_law_turn", "_law_names", "_law_told", "_law_width", "_law_size", "_law_functions", "_law_header"] (defScope s_L_module) (scs (defBody s_L_module) 2) [("_law_header", 10)] := ⟨by decide +kernel, by decide +kernel, by decide +kernel, by decide +kernel, by decide +kernel⟩
theorem bk_L_web_of_0 : BlkOk ["_law_function_here", "_law_labels", "_law_block_here", "_law_target"] (defScope s_L_web_of) (scs (defBody s_L_web_of) 0) [("_law_block_here", 2)] := ⟨by decide +kernel, by decide +kernel, by decide +kernel, by decide +kernel, by decide +kernel⟩
theorem bk_L_web_of_1 : BlkOk ["_law_function_here", "_law_labels", "_law_block_here", "_law_target"] (defScope s_L_web_of) (scs (defBody s_L_web_of) 1) [("_law_block_here", 2)] := ⟨by decide +kernel, by decide +kernel, by decide +kernel, by decide +kernel, by decide +kernel⟩
theorem bk_L_spiced_0 : BlkOk ["_law_deal", "_law_function_here", "_law_blocks", "_law_label", "_law_params", "_law_ops", "_law_ending", "_law_some", "_law_op", "_law_like", "_law_one", "_law_form_here", "_law_word", "_law_wide", "_law_number_here", "_law_args"] (defScope s_L_spiced) (scs (defBody s_L_spiced) 0) [("_law_one", 10)] := ⟨by decide +kernel, by decide +kernel, by decide +kernel, by decide +kernel, by decide +kernel⟩
theorem bk_L_spicy_module_0 : BlkOk ["_law_deal", "_law_module_here", "_law_function_here"] (defScope s_L_spicy_module) (scs (defBody s_L_spicy_module) 0) [("_law_function_here", 2)] := ⟨by decide +kernel, by decide +kernel, by decide +kernel, by decide +kernel, by decide +kernel⟩
theorem bk_L_weight_0 : BlkOk ["_law_function_here", "_law_ops", "_law_high", "_law_value", "_law_args", "_law_arg"] (defScope s_L_weight) (scs (defBody s_L_weight) 0) [("_law_arg", 5)] := ⟨by decide +kernel, by decide +kernel, by decide +kernel, by decide +kernel, by decide +kernel⟩
theorem bk_L_weight_1 : BlkOk ["_law_function_here", "_law_ops", "_law_high", "_law_value", "_law_args", "_law_arg"] (defScope s_L_weight) (scs (defBody s_L_weight) 1) [("_law_arg", 5)] := ⟨by decide +kernel, by decide +kernel, by decide +kernel, by decide +kernel, by decide +kernel⟩
theorem bk_L_weight_2 : BlkOk ["_law_function_here", "_law_ops", "_law_high", "_law_value", "_law_args", "_law_arg"] (defScope s_L_weight) (scs (defBody s_L_weight) 2) [("_law_arg", 5)] := ⟨by decide +kernel, by decide +kernel, by decide +kernel, by decide +kernel, by decide +kernel⟩
theorem bk_L_weight_3 : BlkOk ["_law_function_here", "_law_ops", "_law_high", "_law_value", "_law_args", "_law_arg"] (defScope s_L_weight) (scs (defBody s_L_weight) 3) [("_law_value", 3)] := ⟨by decide +kernel, by decide +kernel, by decide +kernel, by decide +kernel, by decide +kernel⟩
theorem bk_L_weight_4 : BlkOk ["_law_function_here", "_law_ops", "_law_high", "_law_value", "_law_args", "_law_arg"] (defScope s_L_weight) (scs (defBody s_L_weight) 4) [("_law_value", 3)] := ⟨by decide +kernel, by decide +kernel, by decide +kernel, by decide +kernel, by decide +kernel⟩
end K53
/-! text A8 -/
set_option Elab.async false
set_option linter.all false
set_option maxRecDepth 100000
set_option maxHeartbeats 1000000
namespace K53
open PySem PySem.Spec PyProof.Rows L2 Dl
local macro_rules | `(tactic| walk_at "fl") => `(tactic| first | rfl | assumption | (simp only [*]; done) | decide)
/-- values that stand, with their types -/
def hD (h : List (Nat × PyData)) : List PyData := h.map fun p => .tuple [.int (p.1 : Int), p.2]
theorem hD_len (h : List (Nat × PyData)) : (hD h).length = h.length := by simp [hD]
theorem hD_at {h : List (Nat × PyData)} {i : Nat} {d : PyData} (e : (hD h)[i]? = some d) : ∃ p, h[i]? = some p ∧ d = .tuple [.int (p.1 : Int), p.2] := by
  rw [hD, List.getElem?_map] at e
  cases q : h[i]? with
  | none => rw [q] at e; cases e
  | some p => rw [q] at e; cases e; exact ⟨p, rfl, rfl⟩
theorem hD_app (a b : List (Nat × PyData)) : hD (a ++ b) = hD a ++ hD b := by simp [hD]
theorem isS_cases {d : PyData} (h : isS d = true) : d = .str "ptr" ∨ ∃ n : Nat, d = .int (n : Int) ∧ n ≤ 64 := by
  cases d with
  | int i =>
    simp only [isS, Bool.and_eq_true, decide_eq_true_eq] at h
    exact .inr ⟨i.toNat, by rw [Int.toNat_of_nonneg h.1], by omega⟩
  | str x =>
    simp only [isS, fV, decide_eq_true_eq, V.str.injEq] at h
    exact .inl (by rw [h])
  | _ => cases h
theorem sc_S {a b : PyData} (ha : isS a = true) (hb : isS b = true) : sc a b = true := by
  rcases isS_cases ha with rfl | ⟨n, rfl, _⟩ <;> rcases isS_cases hb with rfl | ⟨m, rfl, _⟩ <;> rfl
theorem sc_str {a : PyData} (ha : isS a = true) (x : Str) : sc a (.str x) = true := by
  rcases isS_cases ha with rfl | ⟨n, rfl, _⟩ <;> rfl
/-- an operand: a value that stands, a number, a global -/
def Opd (h : List (Nat × PyData)) (d : PyData) : Prop := (∃ p ∈ h, d = .tuple [.str "v", .int (p.1 : Int)]) ∨ (∃ i : Int, d = .tuple [.str "n", .int i]) ∨ ∃ x, d = .tuple [.str "g", .str x]
theorem opv_lay {h : List (Nat × PyData)} {d : PyData} (o : ∃ p ∈ h, d = .tuple [.str "v", .int (p.1 : Int)]) : d.canLay0 = true := by
  obtain ⟨p, _, rfl⟩ := o
  simp [PyData.canLay0, PyData.canLayAll0]
  decide +kernel
theorem Opd.noL {h : List (Nat × PyData)} {d : PyData} (o : Opd h d) : noL d = true := by
  rcases o with ⟨p, _, rfl⟩ | ⟨i, rfl⟩ | ⟨x, rfl⟩ <;> rfl
theorem lay_all {es : List PyData} (h : ∀ e ∈ es, PyData.canLay0 e = true) : PyData.canLayAll0 es = true := by
  induction es with
  | nil => rfl
  | cons e es ih =>
    simp only [PyData.canLayAll0, Bool.and_eq_true]
    exact ⟨h e List.mem_cons_self, ih fun x hx => h x (List.mem_cons_of_mem _ hx)⟩
structure OpPre where
  h : List (Nat × PyData)
  want : PyData
  names : List PyData
abbrev preOpd (x : OpPre) (ds : List PyData) : Prop := ds = [.list (hD x.h), x.want, .list x.names] ∧ x.h.length ≤ 400 ∧ (∀ p ∈ x.h, isS p.2 = true) ∧ isS x.want = true ∧ x.names ≠ [] ∧ x.names.length ≤ 100 ∧ x.names.all isT = true
abbrev postOpd (x : OpPre) (d : PyData) : Prop := Opd x.h d
section
variable {P : Program} {w : World} {K : PySem.W.Frag} {mg : Str → Option Value} {base : Heap}
theorem ok_operand (T : Txt K mg) : DefOk P w K mg base 4 "_law_operand" ["_law_deal", "_law_here", "_law_wanted", "_law_names"] (spM K preOpd postOpd) := by
  refine def_M T.F_L_operand T.g_L_operand b_L_operand sc_L_operand (by rintro n _ ⟨rfl, _⟩; rfl) ?_
  rintro X ⟨cdv, A, outer, s, H0, E, hr, rfl⟩ ⟨h, want, names⟩ S0 H dl cl ds σ Q C ⟨rfl, hh, hhs, hw, hn0, hn, hnt⟩ hQ
  dsimp only at hh hhs hw hn0 hn hnt C hQ
  have r3 : Room 3 (A.deeper (envOfC "_law_operand" (defScope s_L_operand) s.heap.objs.size (He.ga K "_law_operand") cdv)) := hr
  have r2 : Room 2 (A.deeper (envOfC "_law_operand" (defScope s_L_operand) s.heap.objs.size (He.ga K "_law_operand") cdv)) := hr.mono (by decide)
  have r1 : Room 1 (A.deeper (envOfC "_law_operand" (defScope s_L_operand) s.heap.objs.size (He.ga K "_law_operand") cdv)) := hr.mono (by decide)
  have hu : (A.deeper (envOfC "_law_operand" (defScope s_L_operand) s.heap.objs.size (He.ga K "_law_operand") cdv)).units + 64 < cLine := hr.units
  refine ss_setLc 4 (own := [("_law_value", 5), ("_law_sort", 6)]) (js := [5] ++ ([6] ++ [])) (ds := hD h) (y := .list (hD h)) C (de_var 1 rfl) rfl (by rw [hD_len]; omega) (by decide) (fun _ o => ∀ e, o = some e → ∃ p ∈ h, e = .tuple [.str "v", .int (p.1 : Int)]) (fun i d DA acc hDA hd => ?_) (fun es σ1 H1 C1 _ rel => ?_) rfl sc_L_operand.nd bk_L_operand_0 rfl
  · obtain ⟨p, hp, rfl⟩ := hD_at hd
    refine ⟨[.v (.ref dl), .d (.list (hD h)), .d want, .d (.list names), .u, .d (.int p.1), .d p.2, .u], fun k => True, fun d => d = .tuple [.str "v", .int p.1], fun s H C cl fp => ?_, fun s H C cl fp => ?_, fun _ s H C cl fp => ?_, (fun _ e z => by cases z), fun d' _ e e' z => ?_⟩
    · exact gd_tup rfl (gds_cons (gd_name 5 sc_L_operand.nd) (gds_cons (gd_name 6 sc_L_operand.nd) gds_nil)) rfl
    · exact bes_one ((be_eq (de_var 6 rfl) (de_var 2 rfl) (sc_S (hhs p (List.mem_of_getElem? hp)) hw)).imp fun _ _ => True.intro)
    · exact de_tupE (da_consE de_str (da_consE (de_var 5 rfl) da_nilE))
    · cases z
      exact ⟨p, List.mem_of_getElem? hp, e⟩
  have hev : ∀ e ∈ es, ∃ p ∈ h, e = .tuple [.str "v", .int (p.1 : Int)] := LcRel.mem (fun i e r => r e rfl) rel
  have hes : ∀ e ∈ es, Opd h e := fun e he => .inl (hev e he)
  have hel := rel.len
  rw [hD_len] at hel
  have fin : ∀ (es : List PyData) σ2 H2, es ≠ [] → es.length ≤ 1000 → (∀ e ∈ es, Opd h e) → Dl.Ctx K ⟨[dl, cl], H, [dl, cl]⟩ S0 [] [.v (.ref dl), .d (.list (hD h)), .d want, .d (.list names), .d (.list es), .u, .u, .u] σ2 H2 →
      SS (cxOf CX0 P w K mg base ["_law_deal", "_law_here", "_law_wanted", "_law_names", "_law_some", "_law_value", "_law_sort", "_law_name"] "_law_operand" (defScope s_L_operand) (He.ga K "_law_operand") cdv A outer s H0 E).nox ((defBody s_L_operand).drop 2) { nx := fun _ H' => Q .non H', rt := Q } σ2 H2 := by
    intro es σ2 H2 h0 hl he C2
    exact ss_retM (S0 := S0) C2 (de_of (ok_of T) r2 rfl rfl (de_var 4 rfl) h0 hl) hQ fun d hd => he d hd
  refine ss_if C1 (be_eq (de_var 2 rfl) de_str (sc_str hw _)) (fun H2 C2 _ e => ?_) (fun H2 C2 _ e => ?_)
  · refine ss_set 4 C2 (ne_cat (Pl := fun l => l = es) (Pr := fun l => l.length = names.length ∧ ∀ e ∈ l, Opd h e) ((de_var 4 rfl).imp fun d e => ⟨es, e, rfl⟩) (NE.de ((ne_lcI (own := [("_law_name", 7)]) (js := [7]) (ds := names) (it_data (y := .list names) (de_var 3 rfl) rfl) (by omega) (by decide) (fun _ o => ∃ x, o = some (.tuple [.str "g", .str x])) (fun i d DA acc hDA hd => ?_) rfl sc_L_operand.nd bk_L_operand_1).imp fun l rel => ?_)) (fun l r hl hr => by rw [hl, hr.1]; omega)).de (fun d σ3 H3 C3 _ ⟨l3, e3, l1, l2, e4, e5, h6, h7⟩ => ?_) sc_L_operand.nd
    · obtain ⟨x, rfl⟩ := isT_str (all_of hnt (List.mem_of_getElem? hd))
      refine ⟨[.v (.ref dl), .d (.list (hD h)), .d want, .d (.list names), .d (.list es), .u, .u, .d (.str x)], fun k => k = true, fun d => d = .tuple [.str "g", .str x], fun s H C cl fp => gd_name 7 sc_L_operand.nd, fun s H C cl fp => bes_nil, fun _ s H C cl fp => de_tupE (da_consE de_str (da_consE (de_var 7 rfl) da_nilE)), (fun z => by cases z), fun d' _ e => ⟨x, by rw [e]⟩⟩
    · have al := rel.all (fun i ⟨x, z⟩ => by cases z)
      exact ⟨al.1, fun e he => by
        obtain ⟨i, hi⟩ := List.mem_iff_getElem?.mp he
        obtain ⟨x, z⟩ := al.2 i e hi
        cases z
        exact .inr (.inr ⟨x, rfl⟩)⟩
    · subst e3 e4 e5
      refine ss_nil (fin (l1 ++ l2) _ _ ?_ ?_ ?_ C3)
      · intro z
        have := congrArg List.length z
        rw [List.length_append, h6] at this
        have h0 : 0 < names.length := List.length_pos_iff.mpr hn0
        rw [List.length_nil] at this
        omega
      · rw [List.length_append, h6]; omega
      · intro e he
        rcases List.mem_append.mp he with z | z
        · exact hes e z
        · exact h7 e z
  · obtain ⟨n, rfl, hn64⟩ : ∃ n : Nat, want = .int (n : Int) ∧ n ≤ 64 := by
      rcases isS_cases hw with rfl | z
      · simp at e
      · exact z
    refine ss_if (Pt := fun b => b = false → es ≠ []) C2 (be_bw (bw_or (P1 := fun b => b = es.isEmpty) (P2 := fun _ => True) (be_isnil hu (de_var 4 rfl).dr (lay_all fun e he => opv_lay (hev e he))) (fun z => bw_or1 (be_eqN (de_any (ok_any T) r1 rfl rfl de_int) (de_I de_int))) (fun _ z => by cases z) (fun c z _ _ e => by rw [e] at z; cases z))) (fun H3 C3 _ _ => ?_) (fun H3 C3 _ h0 => ?_)
    · refine ss_retM (post := Opd h) (S0 := S0) C3 ((de_tupP (Ps := fun ds => ∃ i : Int, ds = [.str "n", .int i]) ((da_cons de_str (da_cons (Pa := Anyint) (de_callM 0 rfl rfl (ok_number T) r3 (da_consE (de_var 2 rfl) da_nilE) (pre1 n ⟨rfl, hn64⟩ fun d p => p)) da_nilE)).imp ?_) ?_)) hQ ?_
      · rintro _ ⟨_, _, rfl, rfl, _, _, rfl, ⟨i, rfl⟩, rfl⟩
        exact ⟨i, rfl⟩
      · rintro _ ⟨i, rfl⟩
        simp only [List.length_cons, List.length_nil]; decide
      · rintro _ ⟨_, rfl, i, rfl⟩
        exact .inr (.inl ⟨i, rfl⟩)
    · exact ss_nil (ss_nil (fin es _ _ (h0 rfl) (by omega) hes C3))
end
end K53
/-! text A9 -/
set_option Elab.async false
set_option linter.all false
set_option maxRecDepth 100000
set_option maxHeartbeats 1000000
namespace K53
open PySem PySem.Spec PyProof.Rows L2 Dl
local macro_rules | `(tactic| walk_at "fl") => `(tactic| first | rfl | assumption | (simp only [*]; done) | decide)
structure OpsPre where
  h : List (Nat × PyData)
  y : PyData
  ts : List PyData
  names : List PyData
abbrev preOpds (x : OpsPre) (ds : List PyData) : Prop := ds = [.list (hD x.h), x.y, .list x.names] ∧ seqOf x.y = some x.ts ∧ x.ts.length ≤ 100 ∧ (∀ t ∈ x.ts, isS t = true) ∧ x.h.length ≤ 400 ∧ (∀ p ∈ x.h, isS p.2 = true) ∧ x.names ≠ [] ∧ x.names.length ≤ 100 ∧ x.names.all isT = true
abbrev postOpds (x : OpsPre) (d : PyData) : Prop := ∃ os, d = .tuple os ∧ os.length = x.ts.length ∧ ∀ o ∈ os, Opd x.h o
section
variable {P : Program} {w : World} {K : PySem.W.Frag} {mg : Str → Option Value} {base : Heap}
theorem ok_operands (T : Txt K mg) : DefOk P w K mg base 5 "_law_operands" ["_law_deal", "_law_here", "_law_types", "_law_names"] (spM K preOpds postOpds) := by
  refine def_M T.F_L_operands T.g_L_operands b_L_operands sc_L_operands (by rintro n _ ⟨rfl, _⟩; rfl) ?_
  rintro X ⟨cdv, A, outer, s, H0, E, hr, rfl⟩ ⟨h, y, ts, names⟩ S0 H dl cl ds σ Q C ⟨rfl, hy, hts, htS, hh, hhs, hn0, hn, hnt⟩ hQ
  dsimp only at hy hts htS hh hhs hn0 hn hnt C hQ
  refine ss_retM (S0 := S0) C (de_tupleOf (Ps := fun os => os.length = ts.length ∧ ∀ o ∈ os, Opd h o) T.n_tuple ((NE.de ((ne_lcI (own := [("_law_wanted", 4)]) (js := [4]) (ds := ts) (it_data (de_var 2 rfl) hy) (by omega) (by decide) (fun _ o => ∃ x, o = some x ∧ Opd h x) (fun i d DA acc hDA hd => ?_) rfl sc_L_operands.nd bk_L_operands_0).imp fun l rel => ?_)).imp fun d ⟨l, e, p⟩ => ⟨l, by rw [e]; rfl, p⟩)) hQ fun d e => e
  · refine ⟨[.v (.ref dl), .d (.list (hD h)), .d y, .d (.list names), .d d], fun k => k = true, fun d => Opd h d, fun s H C cl fp => gd_name 4 sc_L_operands.nd, fun s H C cl fp => bes_nil, fun _ s H C cl fp => ?_, (fun z => by cases z), fun d' _ e => ⟨d', rfl, e⟩⟩
    exact de_callM 0 rfl rfl (ok_operand T) hr (da_consE (de_var 1 rfl) (da_consE (de_var 4 rfl) (da_consE (de_var 3 rfl) da_nilE))) (pre1 ⟨h, d, names⟩ ⟨rfl, hh, hhs, htS d (List.mem_of_getElem? hd), hn0, hn, hnt⟩ fun d p => p)
  · have al := rel.all (fun i ⟨x, z, _⟩ => by cases z)
    exact ⟨al.1, fun e he => by
      obtain ⟨i, hi⟩ := List.mem_iff_getElem?.mp he
      obtain ⟨x, z, o⟩ := al.2 i e hi
      cases z
      exact o⟩
end
end K53
/-! text D16 -/
set_option Elab.async false
set_option linter.all false
set_option maxRecDepth 100000
set_option maxHeartbeats 1000000
namespace Dl
open PySem PySem.Spec PyProof.Rows L2
theorem Ctx.perm {K : PySem.W.Frag} {W : Wd} {S : List Addr} {G G' : List (Addr × MO)} {δ : List Sl} {σ : L2.St} {H : Hp} (C : Ctx K W S G δ σ H) (h : ∀ q ∈ G', q ∈ G) : Ctx K W S G' δ σ H := ⟨C.env, C.deal, C.ms, fun p hp => C.objs p (h p hp), C.trk, C.fr⟩
theorem EE.mono {X : Cx} {e : Expr} {σ : L2.St} {H : Hp} {Q Q' : VK} (h : EE X e σ H Q) (k : ∀ v H, Q v H → Q' v H) : EE X e σ H Q' := fun pins s I =>
  wpAny_mono (h pins s I) (fun u s1 ⟨v, H1, I1, r1, q⟩ => ⟨v, H1, I1, r1, k v H1 q⟩) fun _ _ z => z
/-- what a def with the deal gives anew -/
def spMN (K : PySem.W.Frag) {ι : Type} (pre : ι → List PyData → Prop) (post : ι → List PyData → Prop) : Sp := fun vs H Q _ => ∃ i S dl cl ds vs', vs = .ref dl :: vs' ∧ Trk S H ∧ dl ∈ S ∧ cl ∈ S ∧ Deal H dl cl ∧ Rps K S H ds vs' ∧ pre i ds ∧ ∀ p H' es xs, Stp [dl, cl] H H' → Deal H' dl cl → H p = none → H' p = some (.lst xs) → post i es → Rps K (p :: S) H' es xs → Q (.ref p) H'
section
variable {P : Program} {w : World} {K : PySem.W.Frag} {mg : Str → Option Value} {base : Heap} {x : Str} {params : Arguments} {body : List Stmt} {scope : Scope} {f : Addr} {N ps : List Str} {k : Nat} {ι : Type} {pre : ι → List PyData → Prop} {post : ι → List PyData → Prop}
theorem def_MN (F : ∃ fd, FunD K x x params body scope [] [] f fd) (hm : mg x = some (.ref f)) (hb : BindW x params body scope ps) (S : FnScope N ps scope) (hl : ∀ i ds, pre i ds → ds.length + 1 = ps.length)
    (h : ∀ (X : Cx), (∃ (cdv : Value) (A : Around) (outer : List Env) (s : Shared) (H : Hp) (E : XK), Room k (A.deeper (envOfC x scope s.heap.objs.size f cdv)) ∧ X = (cxOf CX0 P w K mg base N x scope f cdv A outer s H E).nox) →
      ∀ (i : ι) (S0 : List Addr) (H : Hp) (dl cl : Addr) (ds : List PyData) (σ : L2.St) (Q : VK), Ctx K ⟨[dl, cl], H, [dl, cl]⟩ S0 [] (Sl.v (.ref dl) :: ds.map Sl.d ++ List.replicate (N.length - ps.length) Sl.u) σ H → pre i ds →
        (∀ p H' es xs, Stp [dl, cl] H H' → Deal H' dl cl → H p = none → H' p = some (.lst xs) → post i es → Rps K (p :: S0) H' es xs → Q (.ref p) H') →
      SS X body { nx := fun _ H' => Q .non H', rt := Q } σ H) : DefOk P w K mg base (k + 1) x ps (spMN K pre post) := by
  obtain ⟨fd, F⟩ := F
  refine ⟨f, fd, hm, F.kp, F.bindsN hb, F.ok S (fun vs H Q E q => ?_) fun cdv A outer s H vs Q E hr q => ?_⟩
  · obtain ⟨i, S0, dl, cl, ds, vs', rfl, _, _, _, _, r, p, _⟩ := q
    rw [List.length_cons, r.len]
    exact hl i ds p
  · obtain ⟨i, S0, dl, cl, ds, vs', rfl, t, h1, h2, D, r, p, q⟩ := q
    refine ⟨_, PSs.nox psse, h _ ⟨cdv, A, outer, s, H, E, hr, rfl⟩ i S0 H dl cl ds _ Q ⟨?_, .inr ⟨dl, cl, rfl, D⟩, fun a ha => ⟨?_, ha⟩, fun p hp => (by cases hp), t, .refl⟩ p q⟩
    · have e : N.length - ps.length = N.length - (V.ref dl :: vs').length := by rw [List.length_cons, r.len, hl i ds p]
      rw [e]
      exact ⟨some (.ref dl), _, rfl, rfl, start_env _ r⟩
    · have ha : a ∈ [dl, cl] := ha
      simp at ha
      rcases ha with rfl | rfl
      · exact h1
      · exact h2
end
section
variable {X : Cx} {W : Wd} {S : List Addr} {G : List (Addr × MO)} {δ δ' δ'' : List Sl} {a b c e tg : Expr} {es : List Expr} {P Pa Pb : PyData → Prop} {pos : Pos} {σ : L2.St} {H H1 H0 : Hp} {D : Ends} {r : List Stmt} {d x y : PyData} {ds l : List PyData} {js ks : List Nat} {m : List (Key × PyData)} {k : Key} {J : It} {S0 : List Addr} {dl cl : Addr}
theorem ss_retN (i : Nat) {xn : Str} {p : Addr} {p1 : Pos} (C : Ctx X.K ⟨[dl, cl], H0, [dl, cl]⟩ (p :: S) ((p, .lst ds) :: G) δ σ H) (hd : δ[i]? = some (.v (.ref p))) (hQ : ∀ p H' es xs, Stp [dl, cl] H0 H' → Deal H' dl cl → H0 p = none → H' p = some (.lst xs) → es = ds → Rps X.K (p :: S) H' es xs → D.rt (.ref p) H')
    (hN : X.N[i]? = some xn := by rfl) (hv : Vis X.env.scope xn := by first | exact Or.inl rfl | exact Or.inr (Or.inl rfl) | exact Or.inr (Or.inr rfl)) (h1 : (xn == ("__debug__" : Str)) = false := by decide) (h2 : (xn == ("__classdict__" : Str)) = false := by decide) : SS X (.Return (some (.Name xn p1)) pos :: r) D σ H := by
  refine ss_cons (S1.of (ps_ret pee) (ev_v i C hd ?_ hN hv h1 h2))
  obtain ⟨⟨xs, hl, rs⟩, _, hm, h4⟩ := C.objs _ List.mem_cons_self
  refine hQ p H ds xs C.fr C.dealM ?_ hl rfl rs
  rcases h4 with h4 | h4
  · exact absurd h4 hm
  · exact h4
theorem ne_callM {k : Nat} {x xd : Str} {ps : List Str} {ι : Type} {pre : ι → List PyData → Prop} {post : ι → List PyData → Prop} {Ps Pe : List PyData → Prop} {p pd : Pos} (i : Nat) (hW : W.M = [dl, cl]) (hd : δ[i]? = some (.v (.ref dl))) (F : DefOk X.prog X.w X.K X.mg X.base k x ps (spMN X.K pre post)) (hr : Room k X.A) (ha : DAs X W S G δ es Ps) (hpre : ∀ ds, Ps ds → ∃ i, pre i ds ∧ ∀ d, post i d → Pe d)
    (hN : X.N[i]? = some xd := by rfl) (hv : Vis X.env.scope xd := by first | exact Or.inl rfl | exact Or.inr (Or.inl rfl) | exact Or.inr (Or.inr rfl)) (g1 : (xd == ("__debug__" : Str)) = false := by decide) (g2 : (xd == ("__classdict__" : Str)) = false := by decide)
    (hg : Gl X x := by rfl) (hdb : (x == ("__debug__" : Str)) = false := by decide) (he : starEach (.Name xd pd :: es) X.env = (false, eval (.Name xd pd) X.env) :: starEach es X.env := by exact star_cons rfl) (hpl : (backTo pos (starEach es X.env)).any (·.1) = false := by exact back_plain rfl) : NE X W S G δ (.Call (.Name x p) (.Name xd pd :: es) [] pos) Pe := fun σ H C Q q => by
  obtain ⟨f, fd, h1, h2, h3, h4⟩ := F.ex
  obtain ⟨o, e1, e2⟩ := C.env.get hd
  have e2 : o = some (.ref dl) := e2
  refine EE.of (pe_call (dvs := []) h4 hr hg h1 h2 h3 .nil pass0 (pa_cons (pe_var (i := i) hN hv g1 g2) pea he) hdb he hpl) ⟨.ref dl, by rw [e1, e2], ha σ H C _ fun vs H1 ds C1 s1 pd rs => ?_⟩
  show spMN X.K pre post ((V.ref dl :: vs) ++ []) H1 Q E0
  rw [List.append_nil]
  have hD : Deal H1 dl cl := C1.dealW hW
  obtain ⟨i, p1, p2⟩ := hpre ds pd
  refine ⟨i, S, dl, cl, ds, vs, rfl, C1.trk, (C1.ms dl (by rw [hW]; simp)).1, (C1.ms cl (by rw [hW]; simp)).1, hD, rs, p1, fun p H' es xs st D' hp hl po rv => ?_⟩
  have st' : Stp W.M H1 H' := by rw [hW]; exact st
  exact q p H' es xs (C1.stp st' fun dl' cl' z => by
    rw [hW] at z
    cases z
    exact D') (s1.trans st') (C.back C1 s1 hp) hl (p2 es po) rv
/-- xs.pop(e), as an expression -/
theorem ev_popAt (i : Nat) {x : Str} {p : Addr} {p1 p2 p3 : Pos} {Q : VK} (C : Ctx X.K W S ((p, .lst ds) :: G) δ σ H) (hd : δ[i]? = some (.v (.ref p))) (hn : ∀ q ∈ G, q.1 ≠ p) (hz : ds.length ≤ 1000) (he : DE X W S ((p, .lst ds) :: G) δ e (IsI fun j => 0 ≤ j ∧ j < ds.length))
    (k : ∀ (j : Nat) (d : PyData) v H', j < ds.length → ds[j]? = some d → Ctx X.K W S ((p, .lst (ds.eraseIdx j)) :: G) δ σ H' → Stp (p :: W.M) H H' → Rp X.K S H' d v → Q v H')
    (hN : X.N[i]? = some x := by rfl) (hv : Vis X.env.scope x := by first | exact Or.inl rfl | exact Or.inr (Or.inl rfl) | exact Or.inr (Or.inr rfl)) (h1 : (x == ("__debug__" : Str)) = false := by decide) (h2 : (x == ("__classdict__" : Str)) = false := by decide)
    (hbase : attributeBase (.Name x p1) "pop" X.env (eval (.Name x p1) X.env) = eval (.Name x p1) X.env := by rfl)
    (hfew : ((backTo p3 (starEach [e] X.env)).all (fun x => !x.1) && (backToKw p3 (keywordEach [] X.env)).all (fun x => x.1.isSome) && decide (([e] : List Expr).length + ([] : List Keyword).length + (if ([] : List Keyword).isEmpty then 0 else 1) < 30)) = true := by rfl)
    (hline : (p2.endLine == p3.line) = true := by rfl) (hse : starEach [e] X.env = (false, eval e X.env) :: starEach [] X.env := by exact star_cons rfl) : EE X (.Call (.Attribute (.Name x p1) "pop" p2) [e] [] p3) σ H Q := by
  refine EE.of (pe_bm PySem.F.plainAttrs_list PySem.F.slot_list_pop PySem.F.type_list_pop mt_popAt (pe_var hN hv h1 h2) (pa_cons pee pa_nil hse) hbase hfew hline hse) ?_
  obtain ⟨o, e1, e2⟩ := C.env.get hd
  have e2 : o = some (.ref p) := e2
  obtain ⟨⟨xs0, hl0, rs0⟩, _⟩ := C.objs _ List.mem_cons_self
  refine ⟨.ref p, by rw [e1, e2], .inl ⟨rfl, _, .inl (.inl hl0)⟩, he σ H C _ fun v H1 d1 C1 s1 ⟨j, ej, j0, j1⟩ rv => ?_⟩
  subst ej
  have rv : v = .int j := rv
  obtain ⟨⟨xs, hl, rs⟩, haS, haM, _⟩ := C1.objs _ List.mem_cons_self
  obtain ⟨n, rfl⟩ := Int.eq_ofNat_of_zero_le j0
  have hn' : n < ds.length := by omega
  obtain ⟨y, hy, ry⟩ := rs.get (i := n) (List.getElem?_eq_getElem hn')
  have hlen := rs.len
  have m : Mv S S H1 (upd H1 p (.lst (xs.eraseIdx n))) := fun b u e n => ⟨by rw [upd_ne (fun z => n (by rw [z]; exact haS))]; exact e, n⟩
  have er : ∀ (ds : List PyData) (xs : List V) (n : Nat), Rps X.K S H1 ds xs → Rps X.K S H1 (ds.eraseIdx n) (xs.eraseIdx n) := by
    intro ds
    induction ds with
    | nil =>
      intro xs n r
      have r : xs = [] := r
      rw [r]; exact rfl
    | cons a ds ih =>
      rintro xs n ⟨u, us, rfl, r1, r2⟩
      cases n with
      | zero => exact r2
      | succ n => exact ⟨u, us.eraseIdx n, rfl, r1, ih us n r2⟩
  refine ⟨p, xs, n, n, y, rfl, by rw [rv], hl, by omega, by omega, ?_, hy, ?_⟩
  · unfold seqIndex?
    simp
    omega
  · refine k n ds[n] y _ hn' (List.getElem?_eq_getElem hn') (C1.wr (y := .lst (ds.eraseIdx n)) List.mem_cons_self (fun q hq => ?_) ⟨xs.eraseIdx n, upd_same, (er ds xs n rs).mv m⟩) ((s1.mono fun x hx => List.mem_cons_of_mem _ hx).trans (Stp.wr List.mem_cons_self)) (ry.mv m)
    rcases List.mem_cons.mp hq with e | hq
    · exact .inl e
    · exact .inr ⟨List.mem_cons_of_mem _ hq, hn q hq⟩
/-- xs.append(e), e an expression that changes lists -/
theorem ss_appendV (i : Nat) {x : Str} {p : Addr} {p1 p2 p3 : Pos} (C : Ctx X.K W S ((p, .lst ds) :: G) δ σ H) (hd : δ[i]? = some (.v (.ref p))) (hz : ds.length ≤ 1000)
    (he : EE X e σ H fun v H2 => ∃ d G2, Ctx X.K W S ((p, .lst ds) :: G2) δ σ H2 ∧ Rp X.K S H2 d v ∧ (∀ q ∈ G2, q.1 ≠ p) ∧ ∀ H', Ctx X.K W S ((p, .lst (ds ++ [d])) :: G2) δ σ H' → SS X r D σ H')
    (hN : X.N[i]? = some x := by rfl) (hv : Vis X.env.scope x := by first | exact Or.inl rfl | exact Or.inr (Or.inl rfl) | exact Or.inr (Or.inr rfl)) (h1 : (x == ("__debug__" : Str)) = false := by decide) (h2 : (x == ("__classdict__" : Str)) = false := by decide)
    (hbase : attributeBase (.Name x p1) "append" X.env (eval (.Name x p1) X.env) = eval (.Name x p1) X.env := by rfl)
    (hfew : ((backTo p3 (starEach [e] X.env)).all (fun x => !x.1) && (backToKw p3 (keywordEach [] X.env)).all (fun x => x.1.isSome) && decide (([e] : List Expr).length + ([] : List Keyword).length + (if ([] : List Keyword).isEmpty then 0 else 1) < 30)) = true := by rfl)
    (hline : (p2.endLine == p3.line) = true := by rfl) (hse : starEach [e] X.env = (false, eval e X.env) :: starEach [] X.env := by exact star_cons rfl) (hs : swapsWith (.Call (.Attribute (.Name x p1) "append" p2) [e] [] p3) none pos.line X.env = pure false := by rfl) : SS X (.Expr (.Call (.Attribute (.Name x p1) "append" p2) [e] [] p3) pos :: r) D σ H := by
  refine ss_cons (S1.of (ps_expr (pe_bm PySem.F.plainAttrs_list PySem.F.slot_list_append PySem.F.type_list_append mt_append (pe_var hN hv h1 h2) (pa_cons pee pa_nil hse) hbase hfew hline hse) hs) ?_)
  obtain ⟨o, e1, e2⟩ := C.env.get hd
  have e2 : o = some (.ref p) := e2
  obtain ⟨⟨xs0, hl0, rs0⟩, _⟩ := C.objs _ List.mem_cons_self
  refine ⟨.ref p, by rw [e1, e2], .inl ⟨rfl, _, .inl (.inl hl0)⟩, he.mono fun v H2 ⟨d, G2, C2, rv, hn, k⟩ => ?_⟩
  obtain ⟨⟨xs, hl, rs⟩, haS, haM, _⟩ := C2.objs _ List.mem_cons_self
  refine ⟨p, xs, v, rfl, rfl, hl, by rw [rs.len]; exact small1000 hz, ?_⟩
  have m : Mv S S H2 (upd H2 p (.lst (xs ++ [v]))) := fun b u e n => ⟨by rw [upd_ne (fun z => n (by rw [z]; exact haS))]; exact e, n⟩
  refine k _ (C2.wr (y := .lst (ds ++ [d])) List.mem_cons_self (fun q hq => ?_) ⟨xs ++ [v], upd_same, (rs.app (.one rv)).mv m⟩)
  rcases List.mem_cons.mp hq with e | hq
  · exact .inl e
  · exact .inr ⟨List.mem_cons_of_mem _ hq, hn q hq⟩
end
end Dl
/-! text A10 -/
set_option Elab.async false
set_option linter.all false
set_option maxRecDepth 100000
set_option maxHeartbeats 1000000
namespace K53
open PySem PySem.Spec PyProof.Rows L2 Dl
local macro_rules | `(tactic| walk_at "fl") => `(tactic| first | rfl | assumption | (simp only [*]; done) | decide)
theorem nD_lay (l : List Nat) : PyData.canLayAll0 (nD l) = true := by
  induction l with
  | nil => rfl
  | cons a l ih =>
    show PyData.canLayAll0 (.int (a : Int) :: nD l) = true
    simp only [PyData.canLayAll0, PyData.canLay0, Bool.true_and]
    exact ih
theorem nD_erase (l : List Nat) (j : Nat) : (nD l).eraseIdx j = nD (l.eraseIdx j) := by
  induction l generalizing j with
  | nil => rfl
  | cons a l ih =>
    cases j with
    | zero => rfl
    | succ j =>
      show PyData.int (a : Int) :: (nD l).eraseIdx j = nD (a :: l.eraseIdx j)
      rw [ih j]; rfl
theorem nD_at {l : List Nat} {j : Nat} {d : PyData} (h : (nD l)[j]? = some d) : ∃ t, l[j]? = some t ∧ d = .int (t : Int) := by
  rw [nD, List.getElem?_map] at h
  cases q : l[j]? with
  | none => rw [q] at h; cases h
  | some t => rw [q] at h; cases h; exact ⟨t, rfl, rfl⟩
theorem perm_erase : ∀ (l : List Nat) (j t : Nat), l[j]? = some t → (t :: l.eraseIdx j).Perm l
  | a :: l, 0, t, h => by
    have h : a = t := by simpa using h
    rw [h]
    exact List.Perm.refl _
  | a :: l, j + 1, t, h => by
    have ih := perm_erase l j t (by simpa using h)
    exact (List.Perm.swap a t (l.eraseIdx j)).trans (ih.cons a)
  | [], j, t, h => by simp at h
section
variable {P : Program} {w : World} {K : PySem.W.Frag} {mg : Str → Option Value} {base : Heap}
abbrev preMixed (l : List Nat) (ds : List PyData) : Prop := ds = [.list (nD l)] ∧ l.length ≤ 100
abbrev postMixed (l : List Nat) (es : List PyData) : Prop := ∃ l', es = nD l' ∧ l'.Perm l
theorem ok_mixed (T : Txt K mg) : DefOk P w K mg base 2 "_law_mixed" ["_law_deal", "_law_some"] (spMN K preMixed postMixed) := by
  refine def_MN T.F_L_mixed T.g_L_mixed b_L_mixed sc_L_mixed (by rintro n _ ⟨rfl, _⟩; rfl) ?_
  rintro X ⟨cdv, A, outer, s, H0, E, hr, rfl⟩ l S0 H dl cl ds σ Q C ⟨rfl, hl⟩ hQ
  have hu : (A.deeper (envOfC "_law_mixed" (defScope s_L_mixed) s.heap.objs.size (He.ga K "_law_mixed") cdv)).units + 64 < cLine := hr.units
  refine ss_parLL 2 3 (Pq := fun es => es = nD l) (Ps := fun es => es = []) C (ps_par rfl sc_L_mixed.nd rfl rfl (by decide) rfl rfl (pa_cons pee (pa_cons pee pa_nil)) (by rfl)) (ne_list T.n_list (de_var 1 rfl) rfl) (fun q l => ne_nil) (fun p q da db σ1 H1 hp hq C1 _ e1 e2 => ?_)
  subst e1 e2
  refine ss_while (γ := List Nat × List Nat) (fun g => [(q, .lst (nD g.2)), (p, .lst (nD g.1))]) (fun _ => [.v (.ref dl), .d (.list (nD l)), .v (.ref p), .v (.ref q)]) (fun n g => g.1.length = n ∧ (g.1 ++ g.2).Perm l) (fun g => !g.1.isEmpty) l.length (l, []) C1 ⟨rfl, by simp⟩ ?_ ?_ ?_ PassesOwn.never
  · rintro n ⟨a, b⟩ ⟨hn, hp⟩
    refine (be_nonil hu (dr_m 2 rfl (List.mem_cons_of_mem _ List.mem_cons_self)) (nD_lay a)).imp fun k e => ?_
    rw [e]
    cases a <;> rfl
  · rintro n ⟨a, b⟩ σ2 H2 ⟨hn, hpm⟩ ht C2
    dsimp only at hn hpm ht C2
    have hne : a ≠ [] := fun z => by rw [z] at ht; cases ht
    have hal : a.length ≤ l.length := by
      have := hpm.length_eq
      rw [List.length_append] at this
      omega
    have hbl : b.length ≤ l.length := by
      have := hpm.length_eq
      rw [List.length_append] at this
      omega
    have hpq : p ≠ q := fun e => hq (by rw [e]; exact List.mem_cons_self)
    have h0 : 0 < a.length := List.length_pos_iff.mpr hne
    refine ss_appendV 3 (ds := nD b) C2 rfl (by rw [nD_len]; omega) ?_
    refine ev_popAt 2 (ds := nD a) (C2.perm (G' := [(p, .lst (nD a)), (q, .lst (nD b))]) (by
      intro z hz
      simp only [List.mem_cons, List.not_mem_nil, or_false] at hz ⊢
      rcases hz with e | e
      · exact .inr e
      · exact .inl e)) rfl (fun z hz e => by
        rw [List.mem_singleton.mp hz] at e
        exact hpq e.symm) (by rw [nD_len]; omega) (de_any (n := (nD a).length) (ok_any T) hr rfl rfl (de_len T.n_len (dr_m 2 rfl List.mem_cons_self) rfl) (by rw [nD_len]; omega) (by rw [nD_len]; omega)) (fun j d v H3 hj hd C3 _ rv => ?_)
    obtain ⟨t, ht', rfl⟩ := nD_at hd
    rw [nD_erase] at C3
    refine ⟨.int (t : Int), [(p, .lst (nD (a.eraseIdx j)))], C3.perm (by
      intro z hz
      simp only [List.mem_cons, List.not_mem_nil, or_false] at hz ⊢
      rcases hz with e | e
      · exact .inr e
      · exact .inl e), rv, fun z hz e => by
        rw [List.mem_singleton.mp hz] at e
        exact hpq e, fun H4 C4 => ?_⟩
    have hpe := perm_erase a j t ht'
    have hlen := hpe.length_eq
    rw [List.length_cons] at hlen
    refine ss_nil ⟨(a.eraseIdx j).length, (a.eraseIdx j, b ++ [t]), by omega, ⟨rfl, ?_⟩, ?_⟩
    · refine List.Perm.trans ?_ hpm
      refine List.Perm.trans ?_ (hpe.append_right b)
      show (a.eraseIdx j ++ (b ++ [t])).Perm (t :: (a.eraseIdx j ++ b))
      rw [← List.append_assoc]
      exact List.perm_append_comm
    · rw [nD_snoc] at C4
      exact C4
  · rintro n ⟨a, b⟩ σ2 H2 ⟨hn, hpm⟩ ht C2
    dsimp only at hn hpm ht C2
    have ha : a = [] := by
      cases a with
      | nil => rfl
      | cons x a => cases ht
    subst ha
    have C3 : Dl.Ctx K ⟨[dl, cl], H, [dl, cl]⟩ (q :: S0) [(q, .lst (nD b))] [.v (.ref dl), .d (.list (nD l)), .u, .v (.ref q)] σ2 H2 := by
      have hpS : p ∉ q :: S0 := fun z => by
        rcases List.mem_cons.mp z with e | e
        · exact hq (by rw [e]; exact List.mem_cons_self)
        · exact hp e
      have m : Mv (q :: p :: S0) (q :: S0) H2 H2 := Mv.sub fun x hx => by
        rcases List.mem_cons.mp hx with e | e
        · rw [e]; exact List.mem_cons_self
        · exact List.mem_cons_of_mem _ (List.mem_cons_of_mem _ e)
      have CU := C2.u 2
      refine ⟨CU.env.mv m, CU.deal, fun a ha => ⟨List.mem_cons_of_mem _ (C.ms a ha).1, (C.ms a ha).2⟩, fun z hz => ?_, fun a ha => CU.trk a ?_, CU.fr⟩
      · rw [List.mem_singleton.mp hz]
        obtain ⟨h1, h2, h3, h4⟩ := C2.objs (q, .lst (nD b)) List.mem_cons_self
        exact ⟨h1.mv m fun o e => e, List.mem_cons_self, h3, h4⟩
      · rcases List.mem_cons.mp ha with e | e
        · rw [e]; exact List.mem_cons_self
        · exact List.mem_cons_of_mem _ (List.mem_cons_of_mem _ e)
    exact ss_retN 3 C3 rfl fun p H' es xs h1 h2 h3 h4 h5 h6 => hQ p H' es xs h1 h2 h3 h4 ⟨b, h5, by simpa using hpm⟩ h6
end
end K53
/-! text D17 -/
set_option Elab.async false
set_option linter.all false
set_option maxRecDepth 100000
set_option maxHeartbeats 1000000
namespace Dl
open PySem PySem.Spec PyProof.Rows L2
section
variable {X : Cx} {W : Wd} {S : List Addr} {G : List (Addr × MO)} {δ δ' δ'' : List Sl} {a b c e tg : Expr} {es : List Expr} {P Pa Pb : PyData → Prop} {pos : Pos} {σ : L2.St} {H H1 H0 : Hp} {D : Ends} {r : List Stmt} {d x y : PyData} {ds l : List PyData} {js ks : List Nat} {m : List (Key × PyData)} {k : Key} {J : It} {S0 : List Addr} {dl cl : Addr}
/-! ### targets, arguments, displays by hand -/
theorem egs_nil {Q : L2.St → Hp → Prop} (q : Q σ H) : EGs X [] [] σ H Q := EGs.of pgs_nil ⟨rfl, q⟩
theorem egs_name (i : Nat) {xn : Str} {p : Pos} {ts : List Expr} {v : V} {vs : List V} {Q : L2.St → Hp → Prop} (q : EGs X ts vs (σ.set i (some v)) H Q) (hN : X.N.Nodup) (hi : X.N[i]? = some xn := by rfl) (hx : Loc X.env.scope xn := by first | exact Or.inl rfl | exact Or.inr rfl) (hf : X.fn xn = true ∨ X.env.scope.names.lookup xn = some .local := by first | exact .inl rfl | exact .inr rfl | assumption) (hs : (assignEach (.Name xn p :: ts) X.env).map (·.2) = assign (.Name xn p) X.env :: (assignEach ts X.env).map (·.2) := by rfl) : EGs X (.Name xn p :: ts) (v :: vs) σ H Q :=
  EGs.of (pgs_cons (pg_name hN hi hx hf) pges hs) ⟨v, vs, rfl, q⟩
theorem ea_nil {Q : List V → Hp → Prop} (q : Q [] H) : EA X [] σ H Q := EA.of pa_nil q
theorem ea_cons {Q : List V → Hp → Prop} (h : EE X e σ H fun v H1 => EA X es σ H1 fun vs H2 => Q (v :: vs) H2) (hs : starEach (e :: es) X.env = (false, eval e X.env) :: starEach es X.env := by exact star_cons rfl) : EA X (e :: es) σ H Q := EA.of (pa_cons pee pea hs) h
theorem ev_tup {x1} {Q : VK} (h : EA X es σ H fun xs H1 => xs.length ≤ sizeLine ∧ ∀ l, H1 l = none → Q (.ref l) (upd H1 l (.tup xs))) : EE X (.Tuple es x1 pos) σ H Q := EE.of (pe_tup pea) h
theorem ev_ifE {Pt : Bool → Prop} {Q : VK} (C : Ctx X.K W S G δ σ H) (hc : BE X W S G δ c Pt) (ha : ∀ H', Ctx X.K W S G δ σ H' → Stp W.M H H' → Pt true → EE X a σ H' Q) (hb : ∀ H', Ctx X.K W S G δ σ H' → Stp W.M H H' → Pt false → EE X b σ H' Q) : EE X (.IfExp c a b pos) σ H Q :=
  EE.of (pe_ifExp pet pee pee) (hc σ H C _ fun k H1 C1 s1 p => by
    cases k with
    | true => exact iteT (ha H1 C1 s1 p)
    | false => exact iteF (hb H1 C1 s1 p))
/-! ### comprehensions whose elements change lists -/
theorem ev_lcG {γ : Type} {own : List (Str × Nat)} {scope : Scope} {elt iter : Expr} {Q : VK} (Gf : γ → List (Addr × MO)) (Pv : Nat → γ → List PyData → Prop) (g0 : γ) {δt : PyData → List Sl}
    (C : Ctx X.K W S (Gf g0) δ σ H) (hi : IT X W S (Gf g0) δ tg iter ds) (hj : ∀ j ∈ js, j ∈ own.map (·.2)) (p0 : Pv 0 g0 []) (hacc : ∀ i g acc, Pv i g acc → acc.length ≤ 900) (hGS : ∀ g, ∀ q ∈ Gf g, q.1 ∈ S)
    (hg : ∀ W' S' G' s H C cl fp d, GD (blkX X scope s H C cl fp) W' S' G' js tg (wipeD δ (own.map (·.2))) d (δt d))
    (ht : ∀ (W' : Wd) (DA : Addr) (i : Nat) (d : PyData) (g : γ) (acc : List PyData) (σ' : L2.St) (H' : Hp), W'.M = W.M → DA ∉ S → ds[i]? = some d → Pv i g acc → Ctx X.K W' (DA :: S) ((DA, .lst acc) :: Gf g) (δt d) σ' H' → ∀ s HZ Cb cl fp, ∀ Q : VK, (∀ v H4 e g', Ctx X.K W' (DA :: S) ((DA, .lst acc) :: Gf g') (δt d) σ' H4 → Stp (DA :: S) H' H4 → Rp X.K (DA :: S) H4 e v → Pv (i + 1) g' (acc ++ [e]) → Q v H4) → EE (blkX X scope s HZ Cb cl fp) elt σ' H' Q)
    (q : ∀ g acc DA H' xs, Pv ds.length g acc → Ctx X.K W S (Gf g) δ σ H' → Stp S H H' → H DA = none → DA ∉ S → H' DA = some (.lst xs) → Rps X.K (DA :: S) H' acc xs → Q (.ref DA) H')
    (hc : X.calm = true) (hN : X.N.Nodup) (ok : BlkOk X.N X.env.scope scope own) (hs : ∀ x, foldedSetIterable iter X.env x = pure x := by intro _; rfl) : EE X (.ListComp elt [⟨tg, iter, [], 0⟩] scope pos) σ H Q := by
  refine EE.of (pe_lcB hc hN pie ok hs) (hi σ H C _ fun J H1 C1 s1 hw DA hDA => ?_)
  obtain ⟨Gd, Y, hw, hG, hY⟩ := hw
  have hDS : DA ∉ S := C1.trk.out hDA
  have CI := C1.into
  have C1' : Ctx X.K (W.at (Gf g0) H1) (DA :: S) ((DA, .lst []) :: Gf g0) δ σ (upd H1 DA (.lst [])) := CI.vol hDA ⟨[], upd_same, rfl⟩
  have hM := C1.atS
  have toS : ∀ {g acc} {H' : Hp}, Ctx X.K (W.at (Gf g0) H1) (DA :: S) ((DA, .lst acc) :: Gf g) δ σ H' → Stp S H1 H' := fun C' => C'.fr.mono hM
  refine lc_it hw (fun i H' => ∃ g acc, Pv i g acc ∧ Ctx X.K (W.at (Gf g0) H1) (DA :: S) ((DA, .lst acc) :: Gf g) δ σ H') ⟨g0, [], p0, C1'⟩ (fun i H' _ ⟨g, acc, pv, C'⟩ => hG H' (toS C')) (fun i x H' H'' hi ⟨g, acc, pv, C'⟩ yy => ?_) (fun H' ⟨g, acc, pv, C'⟩ => ?_)
  · obtain ⟨s2, hr⟩ := hY i H' x H'' hi (toS C') yy
    have hd : ds[i]? = some ds[i] := List.getElem?_eq_getElem hi
    have rd : Rp X.K (DA :: S) H'' ds[i] x := hr (DA :: S) _ (fun b o e n => ⟨toS C' b o e n, fun z => by
      rcases List.mem_cons.mp z with z | z
      · rw [z, hDA] at e; cases e
      · exact n z⟩) C'.trk hd
    have C2 := C'.ext s2
    have Cw : Ctx X.K (W.at (Gf g0) H1) (DA :: S) ((DA, .lst acc) :: Gf g) (wipeD δ (own.map (·.2))) (wipe σ (own.map (·.2))) H'' := ⟨C2.env.wipe _, C2.deal, C2.ms, C2.objs, C2.trk, C2.fr⟩
    intro s0 HZ Cb cl fp
    refine hg _ _ _ s0 HZ Cb cl fp _ _ H'' x Cw rd _ fun σ2 C3 w2 => ⟨?_, fun s0 HZ Cb cl fp => ?_⟩
    · rw [w2 _ hj, wipe_wipe]
    refine bes_nil (X := blkX X scope s0 HZ Cb cl fp) σ2 H'' C3 _ fun b H3 C4 s3 pb => ?_
    subst pb
    refine iteT fun s0 HZ Cb cl fp => ht (W.at (Gf g0) H1) DA i _ g acc σ2 H3 rfl hDS hd pv C4 s0 HZ Cb cl fp _ fun v H4 e g' C5 st5 re pv' => ?_
    obtain ⟨⟨xs, hl, rs⟩, haS, haM, _⟩ := C5.objs _ List.mem_cons_self
    have hz := hacc i g acc pv
    refine ⟨xs, hl, by rw [rs.len]; exact small1000 (by omega), g', acc ++ [e], pv', ?_⟩
    have m : Mv (DA :: S) (DA :: S) H4 (upd H4 DA (.lst (xs ++ [v]))) := fun b u e n => ⟨by rw [upd_ne (fun z => n (by rw [z]; exact List.mem_cons_self))]; exact e, n⟩
    have stt : Stp (DA :: S) H'' H4 := (s3.mono fun x hx => (C3.ms x hx).1).trans st5
    have C6 : Ctx X.K (W.at (Gf g0) H1) (DA :: S) ((DA, .lst acc) :: Gf g') δ σ H4 := ⟨C2.env.mv fun b u e n => ⟨stt b u e n, n⟩, C5.deal, C5.ms, C5.objs, C5.trk, C5.fr⟩
    refine C6.wr (y := .lst (acc ++ [e])) List.mem_cons_self (fun z hz => ?_) ⟨xs ++ [v], upd_same, (rs.app (.one re)).mv m⟩
    rcases List.mem_cons.mp hz with z' | hz
    · exact .inl z'
    · exact .inr ⟨List.mem_cons_of_mem _ hz, fun e' => hDS (by rw [← e']; exact hGS g' z hz)⟩
  · obtain ⟨⟨ys, hl, rys⟩, _⟩ := C'.objs _ List.mem_cons_self
    have CS : Ctx X.K (W.at (Gf g0) H1) S (Gf g) δ σ H' := C'.drop hDS (hGS g) fun a ha => (C1.ms a ha).1
    exact q g acc DA H' ys pv (C1.outof CS) ((s1.mono fun x hx => (C1.ms x hx).1).trans (toS C')) (C.back C1 s1 hDA) hDS hl rys
end
end Dl
/-! text A11 -/
set_option Elab.async false
set_option linter.all false
set_option maxRecDepth 100000
set_option maxHeartbeats 2000000
namespace K53
open PySem PySem.Spec PyProof.Rows L2 Dl
local macro_rules | `(tactic| walk_at "fl") => `(tactic| first | rfl | assumption | (simp only [*]; done) | decide)
/-! ### blocks -/
theorem idx_at : ∀ {L : List Nat} {i n : Nat}, L.Nodup → L[i]? = some n → L.idxOf n = i
  | a :: L, 0, n, h, e => by
    have e : a = n := by simpa using e
    subst e
    exact List.idxOf_cons_self
  | a :: L, i + 1, n, h, e => by
    have e : L[i]? = some n := by simpa using e
    have hn := List.nodup_cons.mp h
    have ne : a ≠ n := fun z => hn.1 (by rw [z]; exact List.mem_of_getElem? e)
    have hb : (a == n) = false := beq_eq_false_iff_ne.mpr ne
    rw [List.idxOf_cons, hb, idx_at hn.2 e]
    rfl
  | [], i, n, h, e => by simp at e
theorem take_pop {L : List Nat} {m : Nat} (h : m + 1 ≤ L.length) : ∃ n, L[m]? = some n ∧ L.take (m + 1) = L.take m ++ [n] := by
  have hm : m < L.length := h
  refine ⟨L[m], List.getElem?_eq_getElem hm, ?_⟩
  rw [List.take_add_one, List.getElem?_eq_getElem hm]
  rfl
/-- the ends of blocks, with the labels they lead to -/
inductive EndD : PyData → List Nat → Prop
  | branch {o a b : PyData} {l k : Nat} : EndD (.tuple [.str "branch", o, .tuple [.int (l : Int), a], .tuple [.int (k : Int), b]]) [l, k]
  | jump {a : PyData} {l : Nat} : EndD (.tuple [.str "jump", .tuple [.int (l : Int), a]]) [l]
  | stop : EndD (.tuple [.str "stop"]) []
  | ret {x : PyData} : EndD (.tuple [.str "return", x]) []
def ArgOk (d : PyData) : Prop := (∃ k : Nat, d = .tuple [.str "v", .int (k : Int)]) ∨ (∃ i : Int, d = .tuple [.str "n", .int i]) ∨ ∃ x, d = .tuple [.str "g", .str x]
theorem Opd.arg {h : List (Nat × PyData)} {d : PyData} (o : Opd h d) : ArgOk d := by
  rcases o with ⟨p, _, e⟩ | ⟨i, e⟩ | ⟨x, e⟩
  · exact .inl ⟨p.1, e⟩
  · exact .inr (.inl ⟨i, e⟩)
  · exact .inr (.inr ⟨x, e⟩)
/-- an op: its args were made before it -/
structure OpI where
  v : PyData
  kind : Str
  info : List PyData
  args : List PyData
  want : List PyData
  srt : PyData
def OpI.d (o : OpI) : PyData := .tuple [o.v, .str o.kind, .tuple o.info, .tuple o.args]
structure OpD (L : List Nat) (o : OpI) : Prop where
  fk : Fk o.kind o.info o.want o.srt
  len : o.args.length = o.want.length
  arg : ∀ a ∈ o.args, ArgOk a
  non : o.srt = .none → o.v = .none
  val : o.srt ≠ .none → ∃ n : Nat, o.v = .int (n : Int) ∧ ∀ k : Nat, .tuple [.str "v", .int (k : Int)] ∈ o.args → L.idxOf n < L.idxOf k
/-- the ops of a block: each is made behind those ahead of it -/
structure OpsD (L : List Nat) (os : List OpI) : Prop where
  all : ∀ o ∈ os, OpD L o
  dec : os.Pairwise fun a b => ∀ n m : Nat, a.v = .int (n : Int) → b.v = .int (m : Int) → L.idxOf m < L.idxOf n
structure BlkR where
  label : Nat
  params : PyData
  ops : List OpI
  ending : PyData
  tg : List Nat
def BlkR.d (b : BlkR) : PyData := .tuple [.int (b.label : Int), b.params, .tuple (b.ops.map OpI.d), b.ending]
structure BlkD (L : List Nat) (b : BlkR) : Prop where
  ops : OpsD L b.ops
  fin : EndD b.ending b.tg
  len : b.ops.length ≤ 4
structure BkIn where
  ts : List (List Nat)
  labels : List Nat
  L : List Nat
  heads : List (List PyData)
  hs : List PyData
  names : List PyData
  result : PyData
structure SceneOk (x : BkIn) : Prop where
  hs0 : x.hs ≠ []
  hs1 : x.hs.length ≤ 1000
  hs2 : ∀ h ∈ x.hs, Hdr h
  n0 : x.names ≠ []
  n1 : x.names.length ≤ 100
  n2 : x.names.all isT = true
  hd : x.heads.length = x.ts.length
  hd2 : ∀ h ∈ x.heads, h.length ≤ 2 ∧ ∀ t ∈ h, isS t = true
  lb : x.ts.length ≤ x.labels.length
  web : Web x.ts.length x.ts
  six : x.ts.length ≤ 6
  nd : x.L.Nodup
  res : isN x.result = true
def HereOk (L : List Nat) (m : Nat) (h : List (Nat × PyData)) : Prop := ∀ p ∈ h, isS p.2 = true ∧ m ≤ L.idxOf p.1
theorem HereOk.mono {L : List Nat} {m m' : Nat} {h : List (Nat × PyData)} (o : HereOk L m h) (hm : m' ≤ m) : HereOk L m' h := fun p hp => ⟨(o p hp).1, Nat.le_trans hm (o p hp).2⟩
theorem HereOk.app {L : List Nat} {m : Nat} {h k : List (Nat × PyData)} (o : HereOk L m h) (q : HereOk L m k) : HereOk L m (h ++ k) := fun p hp => by
  rcases List.mem_append.mp hp with z | z
  · exact o p z
  · exact q p z
abbrev scn (x : BkIn) (nl : Addr) : List Sl := [.d (.list x.hs), .d (.list x.names), .d (.list (x.heads.map PyData.list)), .d (.list (nD x.labels)), .v (.ref nl), .d (.list (webD x.ts)), .d x.result]
/-- what _law_block asks and gives -/
def spB (K : PySem.W.Frag) : Sp := fun vs H Q _ => ∃ (x : BkIn) (S : List Addr) (dl cl sc hl nl : Addr) (place m : Nat) (h : List (Nat × PyData)), vs = [.ref dl, .int (place : Int), .ref sc, .ref hl] ∧ Trk S H ∧ dl ∈ S ∧ cl ∈ S ∧ Deal H dl cl ∧ hl ∈ S ∧ nl ∈ S ∧ hl ≠ nl ∧ hl ∉ [dl, cl] ∧ nl ∉ [dl, cl] ∧
  Obj1 K S H sc (.tp (scn x nl)) ∧ Obj1 K S H hl (.lst (hD h)) ∧ Obj1 K S H nl (.lst (nD (x.L.take m))) ∧ SceneOk x ∧ place < x.ts.length ∧ HereOk x.L m h ∧ h.length ≤ 100 ∧ 6 ≤ m ∧ m ≤ x.L.length ∧
  ∀ (v : V) (H' : Hp) (d : PyData) (mk : List (Nat × PyData)) (m' : Nat), Stp [dl, cl, hl, nl] H H' → Deal H' dl cl → Obj1 K S H' hl (.lst (hD (h ++ mk))) → Obj1 K S H' nl (.lst (nD (x.L.take m'))) → m ≤ m' + 6 → m' ≤ m → mk.length ≤ 6 → HereOk x.L m' mk →
    (∃ b : BlkR, d = b.d ∧ BlkD x.L b ∧ x.labels[place]? = some b.label ∧ ∃ l, x.ts[place]? = some l ∧ l.map (fun t => x.labels[t]?) = b.tg.map some) → Rp K S H' d v → Q v H'
theorem Rp.ofN {K : PySem.W.Frag} {S : List Addr} {H : Hp} (n : Nat) : Rp K S H (.int (n : Int)) (.int (n : Int)) := rfl
section
variable {X : Cx} {W : Wd} {S : List Addr} {G : List (Addr × MO)} {δ : List Sl} {e : Expr} {pos p : Pos} {σ : L2.St} {H : Hp}
theorem ev_tupleOf {Q : VK} (hm : X.mg "tuple" = none) (h : EE X e σ H fun v H1 => ∃ p xs, v = .ref p ∧ H1 p = some (.lst xs) ∧ ∀ l, H1 l = none → Q (.ref l) (upd H1 l (.tup xs))) (hg : Gl X "tuple" := by rfl) (na : starEach [e] X.env = (false, eval e X.env) :: starEach [] X.env := by exact star_cons rfl) : EE X (.Call (.Name "tuple" p) [e] [] pos) σ H Q :=
  EE.of (pe_callTy call_tuple_of hg hm (by decide +kernel) (pa_cons pee pa_nil na) (he := na)) (h.mono fun v H1 ⟨p, xs, e, h1, k⟩ => ⟨p, xs, by rw [e], .inl ⟨.inl (.inl h1), k⟩⟩)
end
end K53
/-! text A12 -/
set_option Elab.async false
set_option linter.all false
set_option maxRecDepth 100000
set_option maxHeartbeats 2000000
namespace K53
open PySem PySem.Spec PyProof.Rows L2 Dl
local macro_rules | `(tactic| walk_at "fl") => `(tactic| first | rfl | assumption | (simp only [*]; done) | decide)
/-- the slots of _law_block behind its first line -/
abbrev sB (x : BkIn) (dl hl nl : Addr) (place : Nat) (a b c d e f g i j k l : Sl) : List Sl := [.v (.ref dl), .d (.int (place : Int)), .u, .v (.ref hl), .d (.list x.hs), .d (.list x.names), .d (.list (x.heads.map PyData.list)), .d (.list (nD x.labels)), .v (.ref nl), .d (.list (webD x.ts)), .d x.result, a, b, c, d, e, f, g, i, j, k, l]
abbrev gB (x : BkIn) (hl nl : Addr) (h : List (Nat × PyData)) (m : Nat) : List (Addr × MO) := [(hl, .lst (hD h)), (nl, .lst (nD (x.L.take m)))]
section
variable {P : Program} {w : World} {K : PySem.W.Frag} {mg : Str → Option Value} {base : Heap}
abbrev xB (P : Program) (w : World) (K : PySem.W.Frag) (mg : Str → Option Value) (base : Heap) (cdv : Value) (A : Around) (outer : List Env) (s : Shared) (H0 : Hp) (E : XK) : Cx := (cxOf CX0 P w K mg base ["_law_deal", "_law_place", "_law_scene", "_law_here", "_law_headers", "_law_names", "_law_heads", "_law_labels", "_law_numbers", "_law_web_here", "_law_result", "_law_params", "_law_sort", "_law_ops", "_law_turn", "_law_kind", "_law_info", "_law_wanted", "_law_args", "_law_targets", "_law_other", "_law_ending"] "_law_block" (defScope s_L_block) (He.ga K "_law_block") cdv A outer s H0 E).nox
/-- the numbers for the params are taken from the list -/
theorem blk_params (T : Txt K mg) {cdv A outer s H0 E} {x : BkIn} {W : Wd} {S : List Addr} {dl hl nl : Addr} {place m : Nat} {h : List (Nat × PyData)} {σ : L2.St} {H : Hp} {D : Ends} {l : List PyData} (so : SceneOk x) (hne : hl ≠ nl) (hd : x.heads[place]? = some l) (hm : 6 ≤ m) (hmL : m ≤ x.L.length)
    (C : Dl.Ctx K W S (gB x hl nl h m) (sB x dl hl nl place .u .u .u .u .u .u .u .u .u .u .u) σ H)
    (k : ∀ (mk : List (Nat × PyData)) (m' : Nat) σ' H', mk.length ≤ 2 → m ≤ m' + 2 → m' ≤ m → HereOk x.L m' mk → Dl.Ctx K W S (gB x hl nl h m') (sB x dl hl nl place (.d (.tuple (hD mk))) .u .u .u .u .u .u .u .u .u .u) σ' H' → SS (xB P w K mg base cdv A outer s H0 E) ((defBody s_L_block).drop 2) D σ' H') :
    SS (xB P w K mg base cdv A outer s H0 E) ((defBody s_L_block).drop 1) D σ H := by
  have hl2 := so.hd2 l (List.mem_of_getElem? hd)
  refine ss_cons (S1.of (ps_set (i := 11) sc_L_block.nd rfl (.inl rfl) pee rfl (.inl rfl)) ?_)
  refine ev_tupleOf T.n_tuple ?_
  refine ev_lcG (X := xB P w K mg base cdv A outer s H0 E) (γ := Nat × List (Nat × PyData)) (own := [("_law_sort", 12)]) (js := [12]) (ds := l) (fun g => gB x hl nl h g.1) (fun i g acc => acc = hD g.2 ∧ g.2.length = i ∧ i ≤ l.length ∧ m = g.1 + i ∧ HereOk x.L g.1 g.2) (m, []) (δt := fun d => sB x dl hl nl place .u (.d d) .u .u .u .u .u .u .u .u .u) C (it_data (de_ix (da := .list (x.heads.map PyData.list)) (de_var 6 rfl) (de_var 1 rfl) (d := .list l) (by show (x.heads.map PyData.list)[place]? = _; rw [List.getElem?_map, hd]; rfl)) rfl) (by decide) ⟨rfl, rfl, Nat.zero_le _, rfl, fun p hp => by cases hp⟩ (fun i g acc ⟨e, h1, h2, _⟩ => by rw [e, hD_len, h1]; omega) (fun g q hq => ?_) (fun W' S' G' s H C cl fp d => gd_name 12 sc_L_block.nd) ?_ ?_ rfl sc_L_block.nd bk_L_block_0
  · have hq : q ∈ gB x hl nl h m ∨ q.1 = nl := by
      simp only [gB, List.mem_cons, List.not_mem_nil, or_false] at hq ⊢
      rcases hq with e | e
      · exact .inl (.inl e)
      · exact .inr (by rw [e])
    rcases hq with z | z
    · exact (C.objs q z).2.1
    · rw [z]; exact (C.objs (nl, .lst (nD (x.L.take m))) (by simp)).2.1
  · rintro W' DA i d ⟨m1, mk⟩ acc σ' H' hW hDA hdi ⟨rfl, h1, h2, h3, h4⟩ C' s0 HZ Cb cl fp Q q
    dsimp only at h1 h3 h4 C' q
    have hil : i < l.length := (List.getElem?_eq_some_iff.mp hdi).1
    obtain ⟨m2, rfl⟩ : ∃ m2, m1 = m2 + 1 := ⟨m1 - 1, by omega⟩
    obtain ⟨n, hn, ht⟩ := take_pop (L := x.L) (m := m2) (by omega)
    have hhS : hl ∈ S := (C.objs (hl, .lst (hD h)) (by simp)).2.1
    have hnS : nl ∈ S := (C.objs (nl, .lst (nD (x.L.take m))) (by simp)).2.1
    refine ev_tup (ea_cons (ev_pop (X := blkX (xB P w K mg base cdv A outer s H0 E) _ s0 HZ Cb cl fp) 8 (ds := nD (x.L.take m2)) (d := .int (n : Int)) (G := [(DA, .lst (hD mk)), (hl, .lst (hD h))]) (C'.perm (by
      intro z hz
      rw [nD_snoc, ← ht] at hz
      simp only [gB, List.mem_cons, List.not_mem_nil, or_false] at hz ⊢
      rcases hz with e | e | e
      · exact .inr (.inr e)
      · exact .inl e
      · exact .inr (.inl e))) rfl (fun z hz e => ?_) (fun v H2 C2 st2 rv => ?_)))
    · simp only [List.mem_cons, List.not_mem_nil, or_false] at hz
      rcases hz with z' | z'
      · rw [z'] at e; exact hDA (by rw [show DA = nl from e]; exact hnS)
      · rw [z'] at e; exact hne e
    have C3 : Dl.Ctx K W' (DA :: S) ((DA, .lst (hD mk)) :: gB x hl nl h m2) (sB x dl hl nl place .u (.d d) .u .u .u .u .u .u .u .u .u) σ' H2 := C2.perm (by
      intro z hz
      simp only [gB, List.mem_cons, List.not_mem_nil, or_false] at hz ⊢
      rcases hz with e | e | e
      · exact .inr (.inl e)
      · exact .inr (.inr e)
      · exact .inl e)
    refine ea_cons ((show DE (blkX (xB P w K mg base cdv A outer s H0 E) _ s0 HZ Cb cl fp) W' (DA :: S) ((DA, .lst (hD mk)) :: gB x hl nl h m2) (sB x dl hl nl place .u (.d d) .u .u .u .u .u .u .u .u .u) _ (fun y => y = d) from de_var 12 rfl) σ' H2 C3 _ fun v2 H3 d2 C4 st3 e2 rv2 => ea_nil ⟨Nat.le_of_lt (small1000 (by show 2 ≤ 1000; decide)), fun a ha => ?_⟩)
    subst e2
    have hmsub : ∀ b ∈ nl :: W'.M, b ∈ DA :: S := fun b hb => by
      rcases List.mem_cons.mp hb with e | e
      · rw [e]; exact List.mem_cons_of_mem _ hnS
      · exact (C'.ms b e).1
    have st : Stp [] H3 (upd H3 a (.tup [v, v2])) := Stp.new ha
    have hidx : x.L.idxOf n = m2 := idx_at so.nd hn
    refine q (.ref a) _ (.tuple [.int (n : Int), d2]) (m2, mk ++ [(n, d2)]) (C4.ext st) (((st2.mono hmsub).trans (st3.mono fun b hb => (C'.ms b hb).1)).trans st.nil) ?_ ?_
    · refine ⟨a, [v, v2], rfl, .inl ⟨C4.trk.out ha, upd_same⟩, ?_⟩
      exact (Rps.cons (rv.mv (st3.mv fun b hb => (C'.ms b hb).1)) (.one rv2)).mv (st.mv fun b hb => by cases hb)
    · refine ⟨by rw [hD_app]; rfl, by rw [List.length_append, h1]; rfl, by omega, by show m = m2 + (i + 1); omega, ?_⟩
      refine HereOk.app (h4.mono (by show m2 ≤ m2 + 1; omega)) fun p hp => ?_
      rw [List.mem_singleton.mp hp]
      exact ⟨hl2.2 d2 (List.mem_of_getElem? hdi), Nat.le_of_eq hidx.symm⟩
  · rintro ⟨m1, mk⟩ acc DA H' xs ⟨rfl, h1, h2, h3, h4⟩ C' st hDA hDS hl' rs
    dsimp only at h1 h3 h4 C'
    refine ⟨DA, xs, rfl, hl', fun a ha => ?_⟩
    have st2 : Stp [] H' (upd H' a (.tup xs)) := Stp.new ha
    refine k mk m1 _ _ (by omega) (by omega) (by omega) h4 ((C'.ext st2).set 11 (s := .d (.tuple (hD mk))) ⟨.ref a, rfl, a, xs, rfl, .inl ⟨C'.trk.out ha, upd_same⟩, ?_⟩)
    exact (rs.mv (Mv.sub fun x hx => List.mem_cons_of_mem _ hx)).mv (st2.mv fun b hb => by cases hb)
end
end K53
/-! text A13 -/
set_option Elab.async false
set_option linter.all false
set_option maxRecDepth 100000
set_option maxHeartbeats 2000000
namespace K53
open PySem PySem.Spec PyProof.Rows L2 Dl
local macro_rules | `(tactic| walk_at "fl") => `(tactic| first | rfl | assumption | (simp only [*]; done) | decide)
section
variable {X : Cx} {W : Wd} {S : List Addr} {G : List (Addr × MO)} {δ : List Sl} {e : Expr} {pos p q1 q2 q3 : Pos} {σ : L2.St} {H : Hp} {dl cl hl : Addr} {h : List (Nat × PyData)} {names ts : List PyData} {y : PyData}
theorem opds_noL {h : List (Nat × PyData)} : ∀ {os : List PyData}, (∀ o ∈ os, Opd h o) → noLs os = true
  | [], _ => rfl
  | o :: os, k => by
    show (noL o && noLs os) = true
    rw [(k o List.mem_cons_self).noL, opds_noL fun z hz => k z (List.mem_cons_of_mem _ hz)]; rfl
theorem fil_S {hl : Addr} {S : List Addr} : ∀ a ∈ S.filter (fun a => a != hl), a ∈ S := fun a ha => (List.mem_filter.mp ha).1
theorem fil_M {hl : Addr} {S M : List Addr} (hMS : ∀ a ∈ M, a ∈ S) (hn : hl ∉ M) : ∀ a ∈ M, a ∈ S.filter (fun a => a != hl) := fun a ha => List.mem_filter.mpr ⟨hMS a ha, by simp; intro z; exact hn (by rw [← z]; exact ha)⟩
theorem fil_n {hl : Addr} {S : List Addr} : hl ∉ S.filter (fun a => a != hl) := fun z => by
  have := (List.mem_filter.mp z).2
  simp at this
theorem fil_G {hl : Addr} {S : List Addr} {G : List (Addr × MO)} {ds : List PyData} (hG : (hl, MO.lst ds) ∈ G) : ∀ a ∈ S, a ∈ S.filter (fun a => a != hl) ∨ ∃ ds, (a, MO.lst ds) ∈ G := fun a ha => by
  by_cases z : a = hl
  · exact .inr ⟨ds, by rw [z]; exact hG⟩
  · exact .inl (List.mem_filter.mpr ⟨ha, by simp [z]⟩)
theorem de_opds (F : DefOk X.prog X.w X.K X.mg X.base 5 "_law_operands" ["_law_deal", "_law_here", "_law_types", "_law_names"] (spM X.K preOpds postOpds)) (hr : Room 5 X.A) (hW : W.M = [dl, cl]) (h0 : δ[0]? = some (.v (.ref dl))) (h3 : δ[3]? = some (.v (.ref hl))) (h5 : δ[5]? = some (.d (.list names))) (hG : (hl, MO.lst (hD h)) ∈ G) (hn : hl ∉ W.M) (hMS : ∀ a ∈ W.M, a ∈ S) (he : DE X W S G δ e (fun z => z = y))
    (hy : seqOf y = some ts) (k1 : ts.length ≤ 100) (k2 : ∀ t ∈ ts, isS t = true) (k3 : h.length ≤ 400) (k4 : ∀ p ∈ h, isS p.2 = true) (k5 : names ≠ []) (k6 : names.length ≤ 100) (k7 : names.all isT = true)
    (v0 : X.N[0]? = some ("_law_deal" : Str) := by rfl) (v3 : X.N[3]? = some ("_law_here" : Str) := by rfl) (v5 : X.N[5]? = some ("_law_names" : Str) := by rfl)
    (w0 : Vis X.env.scope ("_law_deal" : Str) := by first | exact Or.inl rfl | exact Or.inr (Or.inl rfl) | exact Or.inr (Or.inr rfl)) (w3 : Vis X.env.scope ("_law_here" : Str) := by first | exact Or.inl rfl | exact Or.inr (Or.inl rfl) | exact Or.inr (Or.inr rfl)) (w5 : Vis X.env.scope ("_law_names" : Str) := by first | exact Or.inl rfl | exact Or.inr (Or.inl rfl) | exact Or.inr (Or.inr rfl))
    (hg : Gl X "_law_operands" := by rfl) (hse : nStar e = true := by rfl) : DE X W S G δ (.Call (.Name "_law_operands" p) [.Name "_law_deal" q1, .Name "_law_here" q2, e, .Name "_law_names" q3] [] pos) (fun d => ∃ os, d = .tuple os ∧ os.length = ts.length ∧ ∀ o ∈ os, Opd h o) :=
  de_callMR (S' := S.filter (fun a => a != hl)) (Ps := fun ds => ds = [.list (hD h), y, .list names]) 0 hW h0 fil_S (fil_M hMS hn) (fil_G hG) F hr
    (dx_m 3 h3 hG fil_n fil_S (fil_M hMS hn) (dx_cons fil_S (fil_M hMS hn) he (dx_cons fil_S (fil_M hMS hn) (de_var 5 h5 v5 w5 (by decide) (by decide)) dx_nil (star_cons rfl)) (star_cons hse)) (star_cons rfl) v3 w3 (by decide) (by decide))
    (fun ds e => ⟨⟨h, y, ts, names⟩, ⟨e, hy, k1, k2, k3, k4, k5, k6, k7⟩, fun d ⟨os, e, h1, h2⟩ => ⟨⟨os, e, h1, h2⟩, by rw [e]; exact opds_noL h2⟩⟩) v0 w0 (by decide) (by decide) hg (by decide) (star_cons rfl) (back_plain (by simp only [List.all_cons, hse]; rfl))
theorem de_opd (F : DefOk X.prog X.w X.K X.mg X.base 4 "_law_operand" ["_law_deal", "_law_here", "_law_wanted", "_law_names"] (spM X.K preOpd postOpd)) (hr : Room 4 X.A) (hW : W.M = [dl, cl]) (h0 : δ[0]? = some (.v (.ref dl))) (h3 : δ[3]? = some (.v (.ref hl))) (h5 : δ[5]? = some (.d (.list names))) (hG : (hl, MO.lst (hD h)) ∈ G) (hn : hl ∉ W.M) (hMS : ∀ a ∈ W.M, a ∈ S) (he : DE X W S G δ e (fun z => z = y))
    (k2 : isS y = true) (k3 : h.length ≤ 400) (k4 : ∀ p ∈ h, isS p.2 = true) (k5 : names ≠ []) (k6 : names.length ≤ 100) (k7 : names.all isT = true)
    (v0 : X.N[0]? = some ("_law_deal" : Str) := by rfl) (v3 : X.N[3]? = some ("_law_here" : Str) := by rfl) (v5 : X.N[5]? = some ("_law_names" : Str) := by rfl)
    (w0 : Vis X.env.scope ("_law_deal" : Str) := by first | exact Or.inl rfl | exact Or.inr (Or.inl rfl) | exact Or.inr (Or.inr rfl)) (w3 : Vis X.env.scope ("_law_here" : Str) := by first | exact Or.inl rfl | exact Or.inr (Or.inl rfl) | exact Or.inr (Or.inr rfl)) (w5 : Vis X.env.scope ("_law_names" : Str) := by first | exact Or.inl rfl | exact Or.inr (Or.inl rfl) | exact Or.inr (Or.inr rfl))
    (hg : Gl X "_law_operand" := by rfl) (hse : nStar e = true := by rfl) : DE X W S G δ (.Call (.Name "_law_operand" p) [.Name "_law_deal" q1, .Name "_law_here" q2, e, .Name "_law_names" q3] [] pos) (Opd h) :=
  de_callMR (S' := S.filter (fun a => a != hl)) (Ps := fun ds => ds = [.list (hD h), y, .list names]) 0 hW h0 fil_S (fil_M hMS hn) (fil_G hG) F hr
    (dx_m 3 h3 hG fil_n fil_S (fil_M hMS hn) (dx_cons fil_S (fil_M hMS hn) he (dx_cons fil_S (fil_M hMS hn) (de_var 5 h5 v5 w5 (by decide) (by decide)) dx_nil (star_cons rfl)) (star_cons hse)) (star_cons rfl) v3 w3 (by decide) (by decide))
    (fun ds e => ⟨⟨h, y, names⟩, ⟨e, k3, k4, k2, k5, k6, k7⟩, fun d o => ⟨o, Opd.noL o⟩⟩) v0 w0 (by decide) (by decide) hg (by decide) (star_cons rfl) (back_plain (by simp only [List.all_cons, hse]; rfl))
end
end K53
/-! text A14 -/
set_option Elab.async false
set_option linter.all false
set_option maxRecDepth 100000
set_option maxHeartbeats 4000000
namespace K53
open PySem PySem.Spec PyProof.Rows L2 Dl
local macro_rules | `(tactic| walk_at "fl") => `(tactic| first | rfl | assumption | (simp only [*]; done) | decide)
theorem fk_want {k : Str} {info want : List PyData} {srt : PyData} (h : Fk k info want srt) : (∀ t ∈ want, isS t = true) ∧ want.length ≤ 3 := by
  cases h with
  | call h1 h2 h3 h4 => exact ⟨fun t ht => all_of h2 ht, h3⟩
  | _ =>
    refine ⟨fun t ht => ?_, by simp⟩
    simp only [List.mem_cons, List.not_mem_nil, or_false] at ht <;>
    first
      | (rcases ht with e | e | e <;> rw [e] <;> first | assumption | exact isS_W (by assumption) | rfl | decide)
      | (rcases ht with e | e <;> rw [e] <;> first | assumption | exact isS_W (by assumption) | rfl | decide)
      | (rw [ht] <;> first | assumption | exact isS_W (by assumption) | rfl | decide)
theorem fk_srt {k : Str} {info want : List PyData} {srt : PyData} (h : Fk k info want srt) (hn : srt ≠ .none) : isS srt = true := by
  cases h with
  | call h1 h2 h3 h4 =>
    cases srt with
    | none => exact absurd rfl hn
    | int i => exact h4
    | _ => cases h4
  | _ => first | assumption | exact isS_W (by assumption) | exact absurd rfl hn | rfl | decide
theorem isNn_ne {d : PyData} (h : d ≠ .none) : isNn d = false := by cases d <;> first | rfl | exact absurd rfl h
theorem atD_last (l : List PyData) (d : PyData) : atD (l ++ [d]) (-1) = some d := atI_last l d
/-- the loop's ghost: numbers left, values made, ops -/
abbrev Gh := Nat × List (Nat × PyData) × List OpI
structure LInv (L : List Nat) (m i : Nat) (g : Gh) : Prop where
  ops : OpsD L g.2.2
  len : g.2.2.length = i
  mkl : g.2.1.length ≤ i
  lo : m ≤ g.1 + i
  le : g.1 ≤ m
  here : HereOk L g.1 g.2.1
  vals : ∀ o ∈ g.2.2, ∀ n : Nat, o.v = .int (n : Int) → g.1 ≤ L.idxOf n
theorem opd_val {h : List (Nat × PyData)} {L : List Nat} {m k : Nat} {a : PyData} (hh : HereOk L m h) (o : Opd h a) (e : a = .tuple [.str "v", .int (k : Int)]) : m ≤ L.idxOf k := by
  subst e
  rcases o with ⟨p, hp, e⟩ | ⟨i, e⟩ | ⟨x, e⟩
  · have e : (k : Int) = (p.1 : Int) := by
      injection e with e
      injection e with e1 e2
      injection e2 with e2 e3
      injection e2
    have e : k = p.1 := by omega
    rw [e]
    exact (hh p hp).2
  · injection e with e
    injection e with e1 e2
    injection e1 with e1
    exact absurd e1 (by decide)
  · injection e with e
    injection e with e1 e2
    injection e1 with e1
    exact absurd e1 (by decide)
section
variable {P : Program} {w : World} {K : PySem.W.Frag} {mg : Str → Option Value} {base : Heap}
theorem blk_ops (T : Txt K mg) {cdv A outer s H0 E} {x : BkIn} {W : Wd} {S : List Addr} {dl cl hl nl : Addr} {place m : Nat} {h : List (Nat × PyData)} {pd : PyData} {σ : L2.St} {H : Hp} {D : Ends} (so : SceneOk x) (hne : hl ≠ nl) (hr : Room 5 (xB P w K mg base cdv A outer s H0 E).A) (hW : W.M = [dl, cl]) (hhM : hl ∉ W.M)
    (hh : h.length ≤ 200) (hho : HereOk x.L m h) (hm : 4 ≤ m) (hmL : m ≤ x.L.length)
    (C : Dl.Ctx K W S (gB x hl nl h m) (sB x dl hl nl place (.d pd) .u .u .u .u .u .u .u .u .u .u) σ H)
    (k : ∀ (pl : Addr) (g : Gh) (n : Nat) σ' H', pl ∉ S → n ≤ 4 → LInv x.L m n g → Dl.Ctx K W (pl :: S) ((pl, .lst (g.2.2.map OpI.d)) :: gB x hl nl (h ++ g.2.1) g.1) (sB x dl hl nl place (.d pd) .u (.v (.ref pl)) .u .u .u .u .u .u .u .u) σ' H' → SS (xB P w K mg base cdv A outer s H0 E) ((defBody s_L_block).drop 5) D σ' H') :
    SS (xB P w K mg base cdv A outer s H0 E) ((defBody s_L_block).drop 3) D σ H := by
  have r1 : Room 1 (xB P w K mg base cdv A outer s H0 E).A := hr.mono (by decide)
  have r3 : Room 3 (xB P w K mg base cdv A outer s H0 E).A := hr.mono (by decide)
  refine ss_setN 13 C ne_nil (fun pl d0 σ1 H1 hpl C1 _ e1 => ?_) sc_L_block.nd
  subst e1
  have hhS : hl ∈ S := (C.objs (hl, .lst (hD h)) (by simp)).2.1
  have hnS : nl ∈ S := (C.objs (nl, .lst (nD (x.L.take m))) (by simp)).2.1
  have hMS : ∀ a ∈ W.M, a ∈ S := fun a ha => (C.ms a ha).1
  have hnp : ∀ {h' : List (Nat × PyData)} {m' : Nat}, ∀ q ∈ gB x hl nl h' m', q.1 ≠ pl := fun {h' m'} q hq e => by
    simp only [gB, List.mem_cons, List.not_mem_nil, or_false] at hq
    rcases hq with z | z <;> rw [z] at e <;> exact hpl (by rw [← e]; assumption)
  refine ss_forP (γ := Gh) (js := [14]) (fun g => (pl, .lst (g.2.2.map OpI.d)) :: gB x hl nl (h ++ g.2.1) g.1) (fun _ => sB x dl hl nl place (.d pd) .u (.v (.ref pl)) .u .u .u .u .u .u .u .u) (fun _ i g => LInv x.L m i g) (m, [], []) (Pds := fun ds => ∃ n, ds = rng n ∧ n ≤ 4) (δt := fun _ d => sB x dl hl nl place (.d pd) .u (.v (.ref pl)) (.d d) .u .u .u .u .u .u .u) (C1.perm fun q hq => by simpa using hq)
    (itp_range (Pn := fun n => n ≤ 4) ((de_opN0 (p := fun i => 0 ≤ i ∧ i < 4) (q := fun i => 0 ≤ i ∧ i ≤ 1) (pr := fun i => 0 ≤ i ∧ i ≤ 4) op_add (de_any (ok_any T) r1 hW rfl de_int) (de_if (be_eq (de_var 1 rfl) de_int (by walk_at "fl")) (fun _ => de_int.imp fun d e => ⟨1, e, by decide, by decide⟩) (fun _ => de_int.imp fun d e => ⟨0, e, by decide, by decide⟩)) (fun i j h1 h2 => by omega)).imp fun d ⟨i, e, h1, h2⟩ => ⟨i.toNat, by rw [e, Int.toNat_of_nonneg h1], by omega, by omega⟩) T.n_range) (fun ds _ => ⟨⟨by simp, .nil⟩, rfl, Nat.zero_le _, Nat.le_refl _, Nat.le_refl _, (fun p hp => by cases hp), by simp⟩) (fun W' g d ds i _ _ => gd_name 14 sc_L_block.nd) ?_ ?_ rfl PassesOwn.never
  · rintro W1 _ i d ⟨m1, mk, ops⟩ σ2 H2 hW1 ⟨n, rfl, hn⟩ hd iv C2
    obtain ⟨hi, rfl⟩ := rng_at hd
    have hW' : W1.M = [dl, cl] := hW1.trans hW
    have hhM' : hl ∉ W1.M := by rw [hW1]; exact hhM
    have hMS' : ∀ a ∈ W1.M, a ∈ pl :: S := fun a ha => List.mem_cons_of_mem _ (hMS a (by rw [← hW1]; exact ha))
    have i1 := iv.len
    have i2 := iv.mkl
    have i3 := iv.lo
    have i4 := iv.le
    have i5 := iv.here
    dsimp only at i1 i2 i3 i4 i5 C2
    have hho1 : HereOk x.L m1 (h ++ mk) := (hho.mono i4).app i5
    have hlen1 : (h ++ mk).length ≤ 300 := by rw [List.length_append]; omega
    refine ss_tupA (js := [15] ++ ([16] ++ ([17] ++ ([12] ++ [])))) (α := Str × List PyData × List PyData × PyData) (fun y => .tuple [.str y.1, .tuple y.2.1, .tuple y.2.2.1, y.2.2.2]) (fun y => Fk y.1 y.2.1 y.2.2.1 y.2.2.2) (fun y => sB x dl hl nl place (.d pd) (.d y.2.2.2) (.v (.ref pl)) (.d (.int (i : Int))) (.d (.str y.1)) (.d (.tuple y.2.1)) (.d (.tuple y.2.2.1)) .u .u .u .u) C2 ((de_callM 0 hW' rfl (ok_form T) r3 (da_consE (de_var 4 rfl) da_nilE) (pre1 x.hs ⟨rfl, so.hs0, so.hs1, so.hs2⟩ fun d p => p)).imp fun d ⟨kk, info, want, srt, e, f⟩ => ⟨(kk, info, want, srt), e, f⟩) (fun y _ => gd_tup rfl (gds_cons (gd_name 15 sc_L_block.nd) (gds_cons (gd_name 16 sc_L_block.nd) (gds_cons (gd_name 17 sc_L_block.nd) (gds_cons (gd_name 12 sc_L_block.nd) gds_nil)))) rfl) (fun y σ3 H3 C3 _ fk => ?_)
    obtain ⟨kk, info, want, srt⟩ := y
    dsimp only at fk C3
    have fw := fk_want fk
    refine ss_set 18 C3 (de_opds (ok_operands T) hr hW' rfl rfl rfl (hG := List.mem_cons_of_mem _ List.mem_cons_self) hhM' hMS' (de_var 17 rfl) rfl (by omega) fw.1 (by omega) (fun p hp => (hho1 p hp).1) so.n0 so.n1 so.n2) (fun d σ4 H4 C4 _ ⟨os, e, hol, hoo⟩ => ?_) sc_L_block.nd
    subst e
    by_cases hsn : srt = .none
    · subst hsn
      refine ss_append 13 (ds := ops.map OpI.d) C4 rfl (by rw [List.length_map]; omega) hnp (de_tupE (da_consE (de_if (P := fun z => z = .none) (be_is (de_var 12 rfl)) (fun _ => de_non) (fun e => by cases e)) (da_consE (de_var 15 rfl) (da_consE (de_var 16 rfl) (da_consE (de_var 18 rfl) da_nilE))))) (fun d σ5 H5 C5 _ e => ?_)
      subst e
      refine ss_if C5 (be_isnot (de_var 12 rfl)) (fun H6 C6 _ e => by cases e) (fun H6 C6 _ _ => ss_nil (ss_nil ⟨(m1, mk, ops ++ [⟨.none, kk, info, os, want, .none⟩]), ?_, ?_⟩))
      · refine ⟨⟨fun o ho => ?_, ?_⟩, by rw [List.length_append, i1]; rfl, by show mk.length ≤ i + 1; omega, by show m ≤ m1 + (i + 1); omega, i4, i5, fun o ho => ?_⟩
        · rcases List.mem_append.mp ho with z | z
          · exact iv.ops.all o z
          · rw [List.mem_singleton.mp z]
            exact ⟨fk, hol, fun a ha => (hoo a ha).arg, fun _ => rfl, fun z => absurd rfl z⟩
        · refine List.pairwise_append.mpr ⟨iv.ops.dec, List.pairwise_singleton _ _, fun a ha b hb n' m' h1 h2 => ?_⟩
          rw [List.mem_singleton.mp hb] at h2
          cases h2
        · intro n' e
          rcases List.mem_append.mp ho with z | z
          · exact iv.vals o z n' e
          · rw [List.mem_singleton.mp z] at e
            cases e
      · have e0 : (ops ++ [(⟨.none, kk, info, os, want, .none⟩ : OpI)]).map OpI.d = ops.map OpI.d ++ [.tuple [.none, .str kk, .tuple info, .tuple os]] := by simp [OpI.d]
        dsimp only
        rw [e0]
        exact (((((C6.u 12).u 14).u 15).u 16).u 17).u 18
    · obtain ⟨m2, rfl⟩ : ∃ m2, m1 = m2 + 1 := ⟨m1 - 1, by omega⟩
      obtain ⟨n', hn', ht⟩ := take_pop (L := x.L) (m := m2) (by omega)
      have hidx : x.L.idxOf n' = m2 := idx_at so.nd hn'
      refine ss_appendV 13 (ds := ops.map OpI.d) C4 rfl (by rw [List.length_map]; omega) (ev_tup (ea_cons (ev_ifE C4 (be_is (de_var 12 rfl)) (fun H5 C5 _ e => ?_) (fun H5 C5 _ _ => ?_))))
      · rw [isNn_ne hsn] at e; cases e
      refine ev_pop 8 (ds := nD (x.L.take m2)) (d := .int (n' : Int)) (G := [(pl, .lst (ops.map OpI.d)), (hl, .lst (hD (h ++ mk)))]) (C5.perm (by
        intro z hz
        rw [nD_snoc, ← ht] at hz
        simp only [gB, List.mem_cons, List.not_mem_nil, or_false] at hz ⊢
        rcases hz with e | e | e
        · exact .inr (.inr e)
        · exact .inl e
        · exact .inr (.inl e))) rfl (fun z hz e => ?_) (fun v H6 C6 st6 rv => ?_)
      · simp only [List.mem_cons, List.not_mem_nil, or_false] at hz
        rcases hz with z' | z'
        · rw [z'] at e; exact hpl (by rw [show pl = nl from e]; exact hnS)
        · rw [z'] at e; exact hne e
      have C7 : Dl.Ctx K W1 (pl :: S) ((pl, .lst (ops.map OpI.d)) :: gB x hl nl (h ++ mk) m2) (sB x dl hl nl place (.d pd) (.d srt) (.v (.ref pl)) (.d (.int (i : Int))) (.d (.str kk)) (.d (.tuple info)) (.d (.tuple want)) (.d (.tuple os)) .u .u .u) σ4 H6 := C6.perm (by
        intro z hz
        simp only [gB, List.mem_cons, List.not_mem_nil, or_false] at hz ⊢
        rcases hz with e | e | e
        · exact .inr (.inl e)
        · exact .inr (.inr e)
        · exact .inl e)
      refine (show DAs (xB P w K mg base cdv A outer s H0 E) W1 (pl :: S) ((pl, .lst (ops.map OpI.d)) :: gB x hl nl (h ++ mk) m2) (sB x dl hl nl place (.d pd) (.d srt) (.v (.ref pl)) (.d (.int (i : Int))) (.d (.str kk)) (.d (.tuple info)) (.d (.tuple want)) (.d (.tuple os)) .u .u .u) _ (fun y => y = [.str kk, .tuple info, .tuple os]) from da_consE (de_var 15 rfl) (da_consE (de_var 16 rfl) (da_consE (de_var 18 rfl) da_nilE))) σ4 H6 C7 _ fun vs H7 ds C8 st8 e rs => ?_
      subst e
      refine ⟨by rw [List.length_cons, rs.len]; exact Nat.le_of_lt (small1000 (by show 4 ≤ 1000; decide)), fun a ha => ?_⟩
      have st : Stp [] H7 (upd H7 a (.tup (v :: vs))) := Stp.new ha
      have C9 := C8.ext st
      refine ⟨.tuple [.int (n' : Int), .str kk, .tuple info, .tuple os], gB x hl nl (h ++ mk) m2, C9, ⟨a, v :: vs, rfl, .inl ⟨C8.trk.out ha, upd_same⟩, ?_⟩, hnp, fun H8 C10 => ?_⟩
      · exact (Rps.cons (rv.mv (st8.mv fun b hb => (C7.ms b hb).1)) rs).mv (st.mv fun b hb => by cases hb)
      have hisS := fk_srt fk hsn
      refine ss_if C10 (be_isnot (de_var 12 rfl)) (fun H9 C11 _ _ => ?_) (fun H9 C11 _ e => by rw [isNn_ne hsn] at e; cases e)
      refine ss_append 3 (ds := hD (h ++ mk)) (G := [(pl, .lst (ops.map OpI.d ++ [.tuple [.int (n' : Int), .str kk, .tuple info, .tuple os]])), (nl, .lst (nD (x.L.take m2)))]) (P := fun d => d = .tuple [.int (n' : Int), srt]) (C11.perm (by
        intro z hz
        simp only [gB, List.mem_cons, List.not_mem_nil, or_false] at hz ⊢
        rcases hz with e | e | e
        · exact .inr (.inl e)
        · exact .inl e
        · exact .inr (.inr e))) rfl (by rw [hD_len]; omega) (fun z hz e => ?_) (de_tupE (da_consE (de_ix (de_ixM (d := .tuple [.int (n' : Int), .str kk, .tuple info, .tuple os]) 13 rfl (List.mem_cons_of_mem _ List.mem_cons_self) (de_neg de_int) (atD_last _ _)) de_int rfl) (da_consE (de_var 12 rfl) da_nilE))) (fun d σ10 H10 C12 _ e => ?_)
      · simp only [List.mem_cons, List.not_mem_nil, or_false] at hz
        rcases hz with z' | z'
        · rw [z'] at e; exact hpl (by rw [show pl = hl from e]; exact hhS)
        · rw [z'] at e; exact hne e.symm
      subst e
      refine ss_nil (ss_nil ⟨(m2, mk ++ [(n', srt)], ops ++ [⟨.int (n' : Int), kk, info, os, want, srt⟩]), ?_, ?_⟩)
      · refine ⟨⟨fun o ho => ?_, ?_⟩, by rw [List.length_append, i1]; rfl, by show (mk ++ [(n', srt)]).length ≤ i + 1; rw [List.length_append]; show mk.length + 1 ≤ i + 1; omega, by show m ≤ m2 + (i + 1); omega, by show m2 ≤ m; omega, ?_, fun o ho => ?_⟩
        · rcases List.mem_append.mp ho with z | z
          · exact iv.ops.all o z
          · rw [List.mem_singleton.mp z]
            refine ⟨fk, hol, fun a ha => (hoo a ha).arg, fun z => absurd z hsn, fun _ => ⟨n', rfl, fun k' hk' => ?_⟩⟩
            have := opd_val hho1 (hoo _ hk') rfl
            omega
        · refine List.pairwise_append.mpr ⟨iv.ops.dec, List.pairwise_singleton _ _, fun a ha b hb n1 m' h1 h2 => ?_⟩
          rw [List.mem_singleton.mp hb] at h2
          have h2 : (n' : Int) = (m' : Int) := by injection h2
          have h2 : n' = m' := by omega
          subst h2
          have h3 := iv.vals a ha n1 h1
          have h3 : m2 + 1 ≤ x.L.idxOf n1 := h3
          omega
        · refine HereOk.app (i5.mono (by omega)) fun p hp => ?_
          rw [List.mem_singleton.mp hp]
          exact ⟨hisS, Nat.le_of_eq hidx.symm⟩
        · intro n1 e
          rcases List.mem_append.mp ho with z | z
          · have h3 : m2 + 1 ≤ x.L.idxOf n1 := iv.vals o z n1 e
            show m2 ≤ _
            omega
          · rw [List.mem_singleton.mp z] at e
            have e : (n' : Int) = (n1 : Int) := by injection e
            have e : n' = n1 := by omega
            subst e
            exact Nat.le_of_eq hidx.symm
      · have e0 : (ops ++ [(⟨.int (n' : Int), kk, info, os, want, srt⟩ : OpI)]).map OpI.d = ops.map OpI.d ++ [.tuple [.int (n' : Int), .str kk, .tuple info, .tuple os]] := by simp [OpI.d]
        have e1 : hD (h ++ (mk ++ [(n', srt)])) = hD (h ++ mk) ++ [.tuple [.int (n' : Int), srt]] := by simp [hD]
        have C13 := C12.perm (G' := [(pl, .lst (ops.map OpI.d ++ [.tuple [.int (n' : Int), .str kk, .tuple info, .tuple os]])), (hl, .lst (hD (h ++ mk) ++ [.tuple [.int (n' : Int), srt]])), (nl, .lst (nD (x.L.take m2)))]) (by
          intro z hz
          simp only [List.mem_cons, List.not_mem_nil, or_false] at hz ⊢
          rcases hz with e | e | e
          · exact .inr (.inl e)
          · exact .inl e
          · exact .inr (.inr e))
        have C14 := (((((C13.u 12).u 14).u 15).u 16).u 17).u 18
        dsimp only [gB]
        rw [e0, e1]
        exact C14
  · rintro _ g σ2 H2 ⟨n, rfl, hn⟩ iv C2
    rw [rng_len] at iv
    exact k pl g n σ2 H2 hpl hn iv C2
end
end K53
/-! text A15 -/
set_option Elab.async false
set_option linter.all false
set_option maxRecDepth 100000
set_option maxHeartbeats 4000000
namespace K53
open PySem PySem.Spec PyProof.Rows L2 Dl
local macro_rules | `(tactic| walk_at "fl") => `(tactic| first | rfl | assumption | (simp only [*]; done) | decide)
theorem nD_get {l : List Nat} {i n : Nat} (h : l[i]? = some n) : (nD l)[i]? = some (.int (n : Int)) := by rw [nD, List.getElem?_map, h]; rfl
section
variable {P : Program} {w : World} {K : PySem.W.Frag} {mg : Str → Option Value} {base : Heap}
/-- the ending of a block -/
theorem blk_end (T : Txt K mg) {cdv A outer s H0 E} {x : BkIn} {W : Wd} {S : List Addr} {dl cl hl nl pl : Addr} {place m : Nat} {h : List (Nat × PyData)} {pd : PyData} {ops : List OpI} {σ : L2.St} {H : Hp} {D : Ends} {lt : List Nat} {lab : Nat} (so : SceneOk x) (hr : Room 5 (xB P w K mg base cdv A outer s H0 E).A) (hW : W.M = [dl, cl]) (hhM : hl ∉ W.M)
    (hh : h.length ≤ 300) (hho : ∀ p ∈ h, isS p.2 = true) (hlt : x.ts[place]? = some lt) (hlab : x.labels[place]? = some lab) (hlen : ops.length ≤ 1000)
    (C : Dl.Ctx K W S ((pl, .lst (ops.map OpI.d)) :: gB x hl nl h m) (sB x dl hl nl place (.d pd) .u (.v (.ref pl)) .u .u .u .u .u .u .u .u) σ H)
    (k : ∀ (v : V) (tg : List Nat) (en : PyData) H', EndD en tg → lt.map (fun t => x.labels[t]?) = tg.map some → (∃ δ σ', Dl.Ctx K W S ((pl, .lst (ops.map OpI.d)) :: gB x hl nl h m) δ σ' H') → Rp K S H' (.tuple [.int (lab : Int), pd, .tuple (ops.map OpI.d), en]) v → D.rt v H') :
    SS (xB P w K mg base cdv A outer s H0 E) ((defBody s_L_block).drop 5) D σ H := by
  have r1 : Room 1 (xB P w K mg base cdv A outer s H0 E).A := hr.mono (by decide)
  have r4 : Room 4 (xB P w K mg base cdv A outer s H0 E).A := hr.mono (by decide)
  have hMS : ∀ a ∈ W.M, a ∈ S := fun a ha => (C.ms a ha).1
  have hw := so.web.2 lt (List.mem_of_getElem? hlt)
  refine ss_setLc 19 (own := [("_law_other", 20)]) (js := [20]) (ds := nD lt) (y := .list (nD lt)) C (de_ix (da := .list (webD x.ts)) (de_var 9 rfl) (de_var 1 rfl) (by show (webD x.ts)[place]? = _; rw [webD, List.getElem?_map, hlt]; rfl)) rfl (by rw [nD_len]; omega) (by decide) (fun i o => ∃ (t n : Nat) (a : PyData), lt[i]? = some t ∧ x.labels[t]? = some n ∧ o = some (.tuple [.int (n : Int), a])) (fun i d DA acc hDA hd => ?_) (fun es σ1 H1 C1 _ rel => ?_) rfl sc_L_block.nd bk_L_block_1 rfl
  · obtain ⟨t, ht, rfl⟩ := nD_at hd
    have htl := hw.2 t (List.mem_of_getElem? ht)
    have htn : t < x.labels.length := Nat.lt_of_lt_of_le htl so.lb
    have hn : x.labels[t]? = some x.labels[t] := List.getElem?_eq_getElem htn
    have hth : t < x.heads.length := by rw [so.hd]; exact htl
    have hhd : x.heads[t]? = some x.heads[t] := List.getElem?_eq_getElem hth
    have hx2 := so.hd2 _ (List.mem_of_getElem? hhd)
    refine ⟨sB x dl hl nl place (.d pd) .u (.v (.ref pl)) .u .u .u .u .u .u (.d (.int (t : Int))) .u, fun k => k = true, fun d => ∃ a, d = .tuple [.int (x.labels[t] : Int), a], fun s H C cl fp => gd_name 20 sc_L_block.nd, fun s H C cl fp => bes_nil, fun _ s1 H1 C1 cl1 fp1 => ?_, (fun z => by cases z), fun d' _ ⟨a, e⟩ => ⟨t, _, a, ht, hn, by rw [e]⟩⟩
    refine (de_tupP (Ps := fun ds => ∃ a, ds = [.int (x.labels[t] : Int), a]) ((da_cons (de_ix (da := .list (nD x.labels)) (di := .int (t : Int)) (de_var 7 rfl) (de_var 20 rfl) (show ixD (.list (nD x.labels)) (.int (t : Int)) = some (.int (x.labels[t] : Int)) from nD_get hn)) (da_cons (de_opds (X := blkX (xB P w K mg base cdv A outer s H0 E) _ s1 H1 C1 cl1 fp1) (ok_operands T) hr hW rfl rfl rfl (hG := List.mem_cons_of_mem _ (List.mem_cons_of_mem _ List.mem_cons_self)) hhM (fun a ha => List.mem_cons_of_mem _ (hMS a ha)) (de_ix (da := .list (x.heads.map PyData.list)) (d := .list x.heads[t]) (de_var 6 rfl) (de_var 20 rfl) (by show (x.heads.map PyData.list)[t]? = _; rw [List.getElem?_map, hhd]; rfl)) rfl (by omega) hx2.2 (by omega) hho so.n0 so.n1 so.n2) da_nilE)).imp ?_) ?_).imp ?_
    · rintro _ ⟨_, _, rfl, rfl, os, _, rfl, _, rfl⟩
      exact ⟨os, rfl⟩
    · rintro _ ⟨a, rfl⟩
      simp only [List.length_cons, List.length_nil]; decide
    · rintro _ ⟨_, rfl, a, rfl⟩
      exact ⟨a, rfl⟩
  have al := rel.all (fun i ⟨_, _, _, _, _, z⟩ => by cases z)
  rw [nD_len] at al
  -- the last lines
  have fin : ∀ (en : PyData) (tg : List Nat) σ2 H2, EndD en tg → lt.map (fun t => x.labels[t]?) = tg.map some → Dl.Ctx K W S ((pl, .lst (ops.map OpI.d)) :: gB x hl nl h m) (sB x dl hl nl place (.d pd) .u (.v (.ref pl)) .u .u .u .u .u (.d (.list es)) .u (.d en)) σ2 H2 → SS (xB P w K mg base cdv A outer s H0 E) ((defBody s_L_block).drop 7) D σ2 H2 := by
    intro en tg σ2 H2 h1 h2 C2
    exact ss_ret (v' := D.rt) C2 (de_tupE (da_consE (de_ix (da := .list (nD x.labels)) (di := .int (place : Int)) (de_var 7 rfl) (de_var 1 rfl) (show ixD (.list (nD x.labels)) (.int (place : Int)) = some (.int (lab : Int)) from nD_get hlab)) (da_consE (de_var 11 rfl) (da_consE (de_tupleM 13 T.n_tuple rfl List.mem_cons_self) (da_consE (de_var 21 rfl) da_nilE))))) fun v H' d C3 _ e rv => k v tg en H' h1 h2 ⟨_, _, C3⟩ (by subst e; exact rv)
  have hlt2 := hw.1
  refine ss_if C1 (be_eq (de_len T.n_len (de_var 19 rfl).dr rfl) de_int (by walk_at "fl")) (fun H2 C2 _ e => ?_) (fun H2 C2 _ e => ?_)
  · have hl2 : lt.length = 2 := by
      have e : true = decide (V.int (es.length : Int) = V.int 2) := e
      simp only [true_eq_decide_iff, V.int.injEq] at e
      omega
    obtain ⟨t1, t2, rfl⟩ : ∃ t1 t2, lt = [t1, t2] := by
      match lt, hl2 with
      | [a, b], _ => exact ⟨a, b, rfl⟩
    obtain ⟨e1, e2, rfl⟩ : ∃ e1 e2, es = [e1, e2] := by
      match es, al.1 with
      | [a, b], _ => exact ⟨a, b, rfl⟩
    obtain ⟨_, n1, a1, h1, h2, h3⟩ := al.2 0 e1 rfl
    obtain ⟨_, n2, a2, h4, h5, h6⟩ := al.2 1 e2 rfl
    cases h1; cases h3; cases h4; cases h6
    refine ss_set 21 C2 (P := fun d => ∃ o, d = .tuple [.str "branch", o, .tuple [.int (n1 : Int), a1], .tuple [.int (n2 : Int), a2]]) ((de_tupP (Ps := fun ds => ∃ o, ds = [.str "branch", o, .tuple [.int (n1 : Int), a1], .tuple [.int (n2 : Int), a2]]) ((da_cons de_str (da_cons (de_opd (ok_operand T) r4 hW rfl rfl rfl (hG := List.mem_cons_of_mem _ List.mem_cons_self) hhM hMS de_int rfl (by omega) hho so.n0 so.n1 so.n2) (da_consE (de_ix (de_var 19 rfl) de_int rfl) (da_consE (de_ix (de_var 19 rfl) de_int rfl) da_nilE)))).imp ?_) ?_).imp ?_) (fun d σ3 H3 C3 _ ⟨o, e⟩ => ?_) sc_L_block.nd
    · rintro _ ⟨_, _, rfl, rfl, o, _, rfl, _, rfl⟩
      exact ⟨o, rfl⟩
    · rintro _ ⟨o, rfl⟩
      simp only [List.length_cons, List.length_nil]; decide
    · rintro _ ⟨_, rfl, o, rfl⟩
      exact ⟨o, rfl⟩
    · subst e
      exact ss_nil (fin _ [n1, n2] _ _ .branch (by simp [h2, h5]) C3)
  · refine ss_if C2 (be_eq (de_len T.n_len (de_var 19 rfl).dr rfl) de_int (by walk_at "fl")) (fun H3 C3 _ e => ?_) (fun H3 C3 _ e2 => ?_)
    · have hl2 : lt.length = 1 := by
        have e : true = decide (V.int (es.length : Int) = V.int 1) := e
        simp only [true_eq_decide_iff, V.int.injEq] at e
        omega
      obtain ⟨t1, rfl⟩ : ∃ t1, lt = [t1] := by
        match lt, hl2 with
        | [a], _ => exact ⟨a, rfl⟩
      obtain ⟨e1, rfl⟩ : ∃ e1, es = [e1] := by
        match es, al.1 with
        | [a], _ => exact ⟨a, rfl⟩
      obtain ⟨_, n1, a1, h1, h2, h3⟩ := al.2 0 e1 rfl
      cases h1; cases h3
      refine ss_set 21 C3 (de_tupE (da_consE de_str (da_consE (de_ix (de_var 19 rfl) de_int rfl) da_nilE))) (fun d σ4 H4 C4 _ e => ?_) sc_L_block.nd
      subst e
      exact ss_nil (ss_nil (fin _ [n1] _ _ .jump (by simp [h2]) C4))
    · have hl0 : lt = [] := by
        have e : false = decide (V.int (es.length : Int) = V.int 2) := e
        have e2 : false = decide (V.int (es.length : Int) = V.int 1) := e2
        simp only [false_eq_decide_iff, V.int.injEq] at e e2
        refine List.eq_nil_of_length_eq_zero ?_
        omega
      subst hl0
      refine ss_if C3 (be_eqN (de_any (ok_any T) r1 hW rfl de_int) (de_I de_int)) (fun H4 C4 _ _ => ?_) (fun H4 C4 _ _ => ?_)
      · refine ss_set 21 C4 (de_tupE (da_consE de_str da_nilE)) (fun d σ5 H5 C5 _ e => ?_) sc_L_block.nd
        subst e
        exact ss_nil (ss_nil (ss_nil (fin _ [] _ _ .stop rfl C5)))
      · refine ss_set 21 C4 (P := fun d => ∃ o, d = .tuple [.str "return", o]) ((de_tupP (Ps := fun ds => ∃ o, ds = [.str "return", o]) ((da_cons de_str (da_cons (Pa := fun _ => True) (de_if (be_is (de_var 10 rfl)) (fun _ => de_non.imp fun _ _ => True.intro) (fun e => (de_opd (ok_operand T) r4 hW rfl rfl rfl (hG := List.mem_cons_of_mem _ List.mem_cons_self) hhM hMS (de_var 10 rfl) ?_ (by omega) hho so.n0 so.n1 so.n2).imp fun _ _ => True.intro)) da_nilE)).imp ?_) ?_).imp ?_) (fun d σ5 H5 C5 _ ⟨o, e⟩ => ?_) sc_L_block.nd
        · have hres := so.res
          cases hx : x.result with
          | none => rw [hx] at e; cases e
          | int i => rw [hx] at hres; exact hres
          | _ => rw [hx] at hres; cases hres
        · rintro _ ⟨_, _, rfl, rfl, o, _, rfl, _, rfl⟩
          exact ⟨o, rfl⟩
        · rintro _ ⟨o, rfl⟩
          simp only [List.length_cons, List.length_nil]; decide
        · rintro _ ⟨_, rfl, o, rfl⟩
          exact ⟨o, rfl⟩
        · subst e
          exact ss_nil (ss_nil (ss_nil (fin _ [] _ _ .ret rfl C5)))
end
end K53
/-! text A16 -/
set_option Elab.async false
set_option linter.all false
set_option maxRecDepth 100000
set_option maxHeartbeats 4000000
namespace K53
open PySem PySem.Spec PyProof.Rows L2 Dl
local macro_rules | `(tactic| walk_at "fl") => `(tactic| first | rfl | assumption | (simp only [*]; done) | decide)
theorem env_cons {K : PySem.W.Frag} {S : List Addr} {H : Hp} {s : Sl} {δ : List Sl} : ∀ {vs : List V}, EnvOk K S H (vs.map some) (s :: δ) → ∃ v vs', vs = v :: vs' ∧ SlOk K S H (some v) s ∧ EnvOk K S H (vs'.map some) δ
  | [], ⟨o, σ', e, _⟩ => by cases e
  | v :: vs, ⟨o, σ', e, h1, h2⟩ => by
    rw [List.map_cons] at e
    injection e with e1 e2
    subst e1 e2
    exact ⟨v, vs, rfl, h1, h2⟩
section
variable {P : Program} {w : World} {K : PySem.W.Frag} {mg : Str → Option Value} {base : Heap}
theorem ok_block (T : Txt K mg) : DefOk P w K mg base 6 "_law_block" ["_law_deal", "_law_place", "_law_scene", "_law_here"] (spB K) := by
  obtain ⟨fd, F⟩ := T.F_L_block
  refine ⟨_, fd, T.g_L_block, F.kp, F.bindsN b_L_block, F.ok sc_L_block (fun vs H Q E q => ?_) fun cdv A outer s H vs Q E hr q => ?_⟩
  · obtain ⟨x, S, dl, cl, sc, hl, nl, place, m, h, rfl, _⟩ := q
    rfl
  obtain ⟨x, S, dl, cl, sc, hl, nl, place, m, h, rfl, t, hdS, hcS, hD0, hhS, hnS, hne, hhM, hnM, ⟨vs7, hsc, henv⟩, ⟨xh, hh1, hh2⟩, ⟨xn, hn1, hn2⟩, so, hpl, hho, hhl, hm6, hmL, q⟩ := q
  refine ⟨_, PSs.nox psse, ?_⟩
  have C0 : Dl.Ctx K ⟨[dl, cl, hl, nl], H, [dl, cl]⟩ S (gB x hl nl h m) ([.v (.ref dl), .d (.int (place : Int)), .v (.ref sc), .v (.ref hl)] ++ List.replicate 18 .u) ([some (.ref dl), some (.int (place : Int)), some (.ref sc), some (.ref hl)] ++ List.replicate 18 none) H := by
    refine ⟨⟨_, _, rfl, rfl, _, _, rfl, ⟨_, rfl, rfl⟩, _, _, rfl, rfl, _, _, rfl, rfl, start_env (ds := []) (vs := []) 18 rfl⟩, .inr ⟨dl, cl, rfl, hD0⟩, fun a ha => ?_, fun p hp => ?_, t, .refl⟩
    · have ha : a ∈ [dl, cl] := ha
      simp only [List.mem_cons, List.not_mem_nil, or_false] at ha ⊢
      rcases ha with rfl | rfl
      · exact ⟨hdS, .inl rfl⟩
      · exact ⟨hcS, .inr (.inl rfl)⟩
    · simp only [gB, List.mem_cons, List.not_mem_nil, or_false] at hp
      rcases hp with rfl | rfl
      · exact ⟨⟨xh, hh1, hh2⟩, hhS, hhM, .inl (by simp)⟩
      · exact ⟨⟨xn, hn1, hn2⟩, hnS, hnM, .inl (by simp)⟩
  obtain ⟨v1, vs7, rfl, s1, henv⟩ := env_cons henv
  obtain ⟨v2, vs7, rfl, s2, henv⟩ := env_cons henv
  obtain ⟨v3, vs7, rfl, s3, henv⟩ := env_cons henv
  obtain ⟨v4, vs7, rfl, s4, henv⟩ := env_cons henv
  obtain ⟨v5, vs7, rfl, s5, henv⟩ := env_cons henv
  obtain ⟨v6, vs7, rfl, s6, henv⟩ := env_cons henv
  obtain ⟨v7, vs7, rfl, s7, henv⟩ := env_cons henv
  have henv : vs7.map some = [] := henv
  obtain rfl : vs7 = [] := List.map_eq_nil_iff.mp henv
  show SS (xB P w K mg base cdv A outer s H E) (defBody s_L_block) { nx := fun _ H' => Q .non H', rt := Q } _ H
  have hrx : Room 5 (xB P w K mg base cdv A outer s H E).A := hr
  refine ss_cons (S1.of (ps_asg pee pge rfl rfl rfl) (ev_v 2 C0 rfl (EG.of (pg_tup rfl pges rfl rfl) ⟨sc, _, rfl, .inl (.inl hsc), rfl, ?_⟩)))
  refine egs_name 4 (egs_name 5 (egs_name 6 (egs_name 7 (egs_name 8 (egs_name 9 (egs_name 10 (egs_nil ?_) sc_L_block.nd) sc_L_block.nd) sc_L_block.nd) sc_L_block.nd) sc_L_block.nd) sc_L_block.nd) sc_L_block.nd
  have CU := Ctx.u (X := xB P w K mg base cdv A outer s H E) 2 C0
  have C1' := ((((((CU.set 4 s1).set 5 s2).set 6 s3).set 7 s4).set 8 s5).set 9 s6).set 10 s7
  have C1 : Dl.Ctx K ⟨[dl, cl, hl, nl], H, [dl, cl]⟩ S (gB x hl nl h m) (sB x dl hl nl place .u .u .u .u .u .u .u .u .u .u .u) _ H := C1'
  have hth : place < x.heads.length := by rw [so.hd]; exact hpl
  have htl : place < x.labels.length := Nat.lt_of_lt_of_le hpl so.lb
  refine blk_params T so hne (List.getElem?_eq_getElem hth) hm6 hmL C1 fun mk1 m1 σ2 H2 a1 a2 a3 a4 C2 => ?_
  refine ss_extend 3 (ds := hD h) C2 rfl (fun z hz e => ?_) (NE.de (ne_list T.n_list (de_var 11 rfl) rfl)) (fun l e => by rw [e, hD_len, hD_len]; omega) (fun l σ3 H3 C3 _ e => ?_)
  · rw [List.mem_singleton.mp hz] at e
    exact hne e.symm
  subst e
  rw [← hD_app] at C3
  have ho2 : HereOk x.L m1 (h ++ mk1) := (hho.mono a3).app a4
  refine blk_ops T so hne hrx rfl hhM (by rw [List.length_append]; omega) ho2 (by omega) (by omega) C3 fun pl g n σ4 H4 hpS hn4 iv C4 => ?_
  have b1 := iv.len
  have b2 := iv.mkl
  have b3 := iv.lo
  have b4 := iv.le
  refine blk_end T so hrx rfl hhM (by rw [List.length_append, List.length_append]; omega) (fun p hp => ((ho2.mono b4).app iv.here p hp).1) (List.getElem?_eq_getElem hpl) (List.getElem?_eq_getElem htl) (by omega) C4 fun v tg en H5 he htg ⟨δ5, σ5, C5⟩ rv => ?_
  have sub : Mv (pl :: S) S H5 H5 := Mv.sub fun x hx => List.mem_cons_of_mem _ hx
  refine q v H5 _ (mk1 ++ g.2.1) g.1 C5.fr (Ctx.dealW (X := xB P w K mg base cdv A outer s H E) C5 rfl) ?_ ?_ (by omega) (by omega) (by rw [List.length_append]; omega) ((a4.mono b4).app iv.here) ⟨⟨x.labels[place], .tuple (hD mk1), g.2.2, en, tg⟩, rfl, ⟨iv.ops, he, by show g.2.2.length ≤ 4; omega⟩, List.getElem?_eq_getElem htl, _, List.getElem?_eq_getElem hpl, htg⟩ (rv.mv sub)
  · have o := (C5.objs (hl, .lst (hD (h ++ mk1 ++ g.2.1))) (by simp)).1
    rw [List.append_assoc] at o
    exact o.mv sub fun o e => e
  · exact ((C5.objs (nl, .lst (nD (x.L.take g.1))) (by simp)).1).mv sub fun o e => e
end
end K53
/-! text D18 -/
set_option Elab.async false
set_option linter.all false
set_option maxRecDepth 100000
set_option maxHeartbeats 1000000
namespace Dl
open PySem PySem.Spec PyProof.Rows L2
/-! a comprehension within a comprehension -/
theorem lookup_relabel_free {env : Env} : ∀ {names : List (Str × NameKind)} {x : Str}, names.lookup x = some .free →
    (names.map fun (n, k) => if (k == NameKind.free && env.scope.kind == .function && env.kindOf n == some .cell) then (n, NameKind.cell) else (n, k)).lookup x = some .cell ∨ (names.map fun (n, k) => if (k == NameKind.free && env.scope.kind == .function && env.kindOf n == some .cell) then (n, NameKind.cell) else (n, k)).lookup x = some .free
  | [], _, h => by simp at h
  | (n, k) :: r, x, h => by
    have ih := @lookup_relabel_free env r x
    show List.lookup x ((if (k == NameKind.free && env.scope.kind == .function && env.kindOf n == some .cell) = true then (n, NameKind.cell) else (n, k)) :: _) = _ ∨ List.lookup x ((if (k == NameKind.free && env.scope.kind == .function && env.kindOf n == some .cell) = true then (n, NameKind.cell) else (n, k)) :: _) = _
    cases hx : x == n with
    | true =>
      simp only [List.lookup_cons, hx] at h
      cases h
      by_cases hc : (NameKind.free == NameKind.free && env.scope.kind == .function && env.kindOf n == some .cell) = true
      · rw [if_pos hc]; left; simp only [List.lookup_cons, hx]
      · rw [if_neg hc]; right; simp only [List.lookup_cons, hx]
    | false =>
      simp only [List.lookup_cons, hx] at h
      by_cases hc : (k == NameKind.free && env.scope.kind == .function && env.kindOf n == some .cell) = true
      · rw [if_pos hc]; simp only [List.lookup_cons, hx]; exact ih h
      · rw [if_neg hc]; simp only [List.lookup_cons, hx]; exact ih h
theorem BlkOk.inner {N : List Str} {sc scope : Scope} {own : List (Str × Nat)} {env : Env} (b : BlkOk N sc scope own) (h : ∀ y ∈ scope.names, y.2 = .free → sc.names.lookup y.1 = some .free) : BlkOk N (relabel sc env) scope own :=
  ⟨b.kind, b.uniq, b.ix, fun y hy e => lookup_relabel_free (h y hy e), b.own⟩
section
variable {X : Cx} {W : Wd} {S : List Addr} {G : List (Addr × MO)} {δ δ' δ'' : List Sl} {a b c e tg : Expr} {es : List Expr} {P Pa Pb : PyData → Prop} {pos : Pos} {σ : L2.St} {H H1 H0 : Hp} {D : Ends} {r : List Stmt} {d x y : PyData} {ds l : List PyData} {js ks : List Nat} {m : List (Key × PyData)} {k : Key} {J : It} {S0 : List Addr} {dl cl : Addr}
/-- y = [elt for tg in ..] on one line, y a local, over any walk -/
theorem ss_setLcI (i : Nat) {x : Str} {py spos : Pos} {own : List (Str × Nat)} {scope : Scope} {elt iter : Expr} {ifs : List Expr} (C : Ctx X.K W S G δ σ H) (he : IT X W S G δ tg iter ds) (hlen : ds.length ≤ 999) (hj : ∀ j ∈ js, j ∈ own.map (·.2)) (R : Nat → Option PyData → Prop)
    (ht : ∀ i d DA acc, DA ∉ S → ds[i]? = some d → LcTurn X scope W (DA :: S) ((DA, .lst acc) :: G) (wipeD δ (own.map (·.2))) tg ifs elt js d (R i))
    (k : ∀ es σ' H', Ctx X.K W S G (δ.set i (.d (.list es))) σ' H' → Stp W.M H H' → LcRel R ds.length es → SS X r D σ' H')
    (hc : X.calm = true) (hN : X.N.Nodup) (ok : BlkOk X.N X.env.scope scope own) (hsw : swapsWith (.ListComp elt [⟨tg, iter, ifs, 0⟩] scope pos) (some (.Name x py)) spos.line X.env = pure true) (hi : X.N[i]? = some x := by rfl) (hyl : X.env.scope.names.lookup x = some .local := by rfl) (hs : ∀ x, foldedSetIterable iter X.env x = pure x := by intro _; rfl) :
    SS X (.Assign [.Name x py] (.ListComp elt [⟨tg, iter, ifs, 0⟩] scope pos) spos :: r) D σ H :=
  ss_cons (S1.of (ps_setLc (g := bG X scope tg) (tt := bT X scope ifs) (te := bE X scope elt) hc hN hi hyl hsw pie ok (fun s H C cl fp => ⟨fun pins s' σ H' v u Q I r h => h s H C cl fp pins s' u I r⟩) (fun s H C cl fp => ⟨fun pins s' σ H' Q I h => h s H C cl fp pins s' I⟩) (fun s H C cl fp => ⟨fun pins s' σ H' Q I h => h s H C cl fp pins s' I⟩) hs)
    (he σ H C _ fun J H1 C1 s1 hw DA hDA => lc_dw hw C1 hDA hlen hj R (fun i d acc => ht i d DA acc) fun H' es xs C' s' hl rel rs =>
      k es _ H' (C'.set i ⟨.ref DA, rfl, DA, xs, rfl, ⟨C1.trk.out hDA, hl⟩, rs.mv (Mv.sub fun x hx => List.mem_cons_of_mem _ hx)⟩) (s1.trans (stp_new hDA s')) rel))
/-- for k in d, d a dict that changes (not within) -/
theorem ss_forKM {γ : Type} (Gf : γ → List (Addr × MO)) (δf : γ → List Sl) (Pv : Nat → γ → Prop) (j : Nat) {q : Addr} {xn : Str} {p1 : Pos} (g0 : γ) {δt : γ → PyData → List Sl} {body : List Stmt} (C : Ctx X.K W S ((q, .dct m) :: Gf g0) (δf g0) σ H)
    (hj : (δf g0)[j]? = some (.v (.ref q))) (hne : ∀ g, ∀ p ∈ Gf g, p.1 ≠ q) (p0 : Pv 0 g0)
    (hg : ∀ W' G' g d, GD X W' S G' js tg (δf g) d (δt g d))
    (hs : ∀ (W' : Wd) (D' : Ends) (o : Obj) (kvs : List (Key × V)) i (p : Key × PyData) g σ' H', W'.M = W.M → m[i]? = some p → Pv i g → Ctx X.K W' S ((q, .dlk o kvs m) :: Gf g) (δt g (kD p.1)) σ' H' → SS X body { D' with nx := fun σ' H' => ∃ g, Pv (i + 1) g ∧ Ctx X.K W' S ((q, .dlk o kvs m) :: Gf g) (δf g) σ' H', ct := fun σ' H' => ∃ g, Pv (i + 1) g ∧ Ctx X.K W' S ((q, .dlk o kvs m) :: Gf g) (δf g) σ' H' } σ' H')
    (hd : ∀ g σ' H', Pv m.length g → Ctx X.K W S ((q, .dct m) :: Gf g) (δf g) σ' H' → SS X r D σ' H') (hc : X.calm = true) (hp : PassesOwn (model X.prog X.w) X.A X.env X.xe)
    (hN : X.N[j]? = some xn := by rfl) (hv : Vis X.env.scope xn := by first | exact Or.inl rfl | exact Or.inr (Or.inl rfl) | exact Or.inr (Or.inr rfl)) (h1 : (xn == ("__debug__" : Str)) = false := by decide) (h2 : (xn == ("__classdict__" : Str)) = false := by decide)
    (hf : ∀ x, foldedSetIterable (.Name xn p1) X.env x = pure x := by intro _; rfl) : SS X (.For tg (.Name xn p1) body [] pos :: r) D σ H := by
  obtain ⟨⟨kvs, hq, rk⟩, hqS, hqM, hq4⟩ := C.objs _ List.mem_cons_self
  obtain ⟨ov, e1, e2⟩ := C.env.get hj
  have e2 : ov = some (.ref q) := e2
  refine ss_cons (S1.of (ps_lock (ps_for hp hc (pi_keys (pe_var hN hv h1 h2)) pge psse hf)) ⟨q, .dK kvs, hq, True.intro, fun od => ⟨.ref q, by rw [e1, e2], q, od, rfl, .inl ⟨kvs, upd_same, ?_⟩⟩⟩)
  -- the frame within: the dict locked
  have L := lk_frz (od := od) hq
  have CI : Ctx X.K (W.at ((q, .dct m) :: Gf g0) (upd H q (.frz od (.dK kvs)))) S ((q, .dlk od kvs m) :: Gf g0) (δf g0) σ (upd H q (.frz od (.dK kvs))) := by
    refine ⟨C.env.lk L, ?_, fun a ha => ⟨(C.ms a ha).1, List.mem_append_left _ ha⟩, fun p hp => ?_, fun a ha z => ?_, .refl⟩
    · rcases C.deal with e | ⟨dl, cl, e, h1, cs, b, h2, h3, h4⟩
      · exact .inl e
      · refine .inr ⟨dl, cl, e, h1, cs, b, ?_, ?_, h4⟩
        · rw [upd_ne (fun z => hqM (by rw [← z]; show dl ∈ W.M; rw [e]; simp))]; exact h2
        · rw [upd_ne (fun z => hqM (by rw [← z]; show cl ∈ W.M; rw [e]; simp))]; exact h3
    · rcases List.mem_cons.mp hp with e | hp
      · subst e
        exact ⟨⟨upd_same, rk.lk L⟩, hqS, hqM, .inl (List.mem_append_right _ (by simp))⟩
      · obtain ⟨a1, a2, a3, _⟩ := C.objs p (List.mem_cons_of_mem _ hp)
        exact ⟨a1.lk L (hne g0 p hp), a2, a3, .inl (List.mem_append_right _ (List.mem_map_of_mem (List.mem_cons_of_mem _ hp)))⟩
    · by_cases e : a = q
      · rw [e, upd_same] at z; cases z
      · rw [upd_ne e] at z; exact C.trk a ha z
  have w := walk_keys (d := q) (o := od) (kvs := kvs)
  have hlen := rk.len
  refine for_it w (fun i σ' H' => ∃ g, Pv i g ∧ Ctx X.K (W.at ((q, .dct m) :: Gf g0) (upd H q (.frz od (.dK kvs)))) S ((q, .dlk od kvs m) :: Gf g) (δf g) σ' H') ⟨g0, p0, CI⟩ (fun i σ' H' _ ⟨g, pv, C'⟩ => (C'.objs _ List.mem_cons_self).1.1) (fun i x σ' H' H'' hi ⟨g, pv, C'⟩ yy => ?_) (fun σ' H' ⟨g, pv, C'⟩ => ?_)
  · obtain ⟨rfl, k, v, hk, rfl⟩ := yy
    obtain ⟨dd, e, _⟩ := rk.at hk
    exact hg _ _ g (kD k) σ' H'' (kV k) C' (kD_rp k) _ fun σ2 C2' _ => hs (W.at ((q, .dct m) :: Gf g0) (upd H q (.frz od (.dK kvs)))) { nx := fun _ _ => True, rt := _, bk := _ } od kvs i (k, dd) g σ2 H'' rfl e pv C2'
  · have h' : H' q = some (.frz od (.dK kvs)) := (C'.objs _ List.mem_cons_self).1.1
    have rk' := (C'.objs _ List.mem_cons_self).1.2
    refine ⟨h', hd g σ' _ (by rw [← hlen]; exact pv) ?_⟩
    have L' := lk_unf h'
    refine C.outof ⟨C'.env.lk L', ?_, C'.ms, fun p hp => ?_, fun a ha z => ?_, fun b o e n => ?_⟩
    · rcases C'.deal with e | ⟨dl, cl, e, h1, cs, b, h2, h3, h4⟩
      · exact .inl e
      · have e' : W.M = [dl, cl] := e
        refine .inr ⟨dl, cl, e, h1, cs, b, ?_, ?_, h4⟩
        · rw [upd_ne (fun z => hqM (by rw [← z]; show dl ∈ W.M; rw [e']; simp))]; exact h2
        · rw [upd_ne (fun z => hqM (by rw [← z]; show cl ∈ W.M; rw [e']; simp))]; exact h3
    · rcases List.mem_cons.mp hp with e | hp
      · subst e
        exact ⟨⟨kvs, upd_same, rk'.lk L'⟩, hqS, hqM, .inl (List.mem_append_right _ (by simp))⟩
      · obtain ⟨a1, a2, a3, a4⟩ := C'.objs p (List.mem_cons_of_mem _ hp)
        refine ⟨a1.lk L' (hne g p hp), a2, a3, ?_⟩
        rcases a4 with a4 | a4
        · exact .inl a4
        · refine .inr ?_
          have a4 : upd H q (.frz od (.dK kvs)) p.1 = none := a4
          rw [upd_ne (hne g p hp)] at a4
          exact a4
    · by_cases e : a = q
      · rw [e, upd_same] at z; cases z
      · rw [upd_ne e] at z; exact C'.trk a ha z
    · have hb : b ≠ q := fun z => n (by rw [z]; exact List.mem_append_right _ (by simp))
      rw [upd_ne hb]
      exact C'.fr b o (by show upd H q _ b = some o; rw [upd_ne hb]; exact e) n
/-- d[k] = e, e told by hand -/
theorem ss_dputV (i : Nat) {xn : Str} {p : Addr} {p1 p2 : Pos} {kx : Expr} (hu : X.A.units + 1 < cLine) (hd : δ[i]? = some (.v (.ref p))) (hz : m.length ≤ 1000)
    (he : EE X e σ H fun v H1 => ∃ d G, (∀ q ∈ G, q.1 ≠ p) ∧ Ctx X.K W S ((p, .dct m) :: G) δ σ H1 ∧ Rp X.K S H1 d v ∧ DE X W S ((p, .dct m) :: G) δ kx (fun z => z = kD k) ∧ ∀ H', Ctx X.K W S ((p, .dct (dpt m k d)) :: G) δ σ H' → SS X r D σ H')
    (hN : X.N[i]? = some xn := by rfl) (hv : Vis X.env.scope xn := by first | exact Or.inl rfl | exact Or.inr (Or.inl rfl) | exact Or.inr (Or.inr rfl)) (h1 : (xn == ("__debug__" : Str)) = false := by decide)
    (h2 : (xn == ("__classdict__" : Str)) = false := by decide) (hs : swapsWith e (some (.Subscript (.Name xn p1) kx p2)) pos.line X.env = pure false := by rfl) : SS X (.Assign [.Subscript (.Name xn p1) kx p2] e pos :: r) D σ H := by
  refine ss_cons (S1.of (ps_dput hu pee pee pee hs) (he.mono fun v H1 ⟨d, G, hn, C1, rv, hk, q⟩ => ev_v i C1 hd (hk σ H1 C1 _ (fun w H2 dk C2 s2 ek rw' => ?_)) hN hv h1 h2))
  subst ek
  obtain ⟨⟨kvs, hl, rk⟩, haS, haM, _⟩ := C2.objs _ List.mem_cons_self
  have m' : Mv S S H2 (upd H2 p (.dK (putK kvs k v))) := fun b u e n => ⟨by rw [upd_ne (fun z => n (by rw [z]; exact haS))]; exact e, n⟩
  refine ⟨p, _, rfl, .inl ⟨kvs, k, hl, kD_v rw', by rw [rk.len]; exact small1000 hz, rfl⟩, ?_⟩
  refine q _ (C2.wr (y := .dct (dpt m k d)) List.mem_cons_self (fun z hz => ?_) ⟨putK kvs k v, upd_same, (rk.put k (C1.mv s2 rv)).mv m'⟩)
  rcases List.mem_cons.mp hz with e | hz
  · exact .inl e
  · exact .inr ⟨List.mem_cons_of_mem _ hz, hn z hz⟩
end
end Dl
/-! text E0 -/
set_option Elab.async false
set_option linter.all false
set_option maxRecDepth 100000
set_option maxHeartbeats 1000000
namespace Dl
open PySem PySem.Spec PyProof.Rows L2
def enD (ds : List PyData) : List PyData := ds.mapIdx fun i d => .tuple [.int (i : Int), d]
/-! ### enumerate over a tuple: made -/
theorem en_meets {v : Value} {o : Obj} {Hh : Heap → Prop} (B : Begins v o Hh) :
    Meets (Builtin.«enumerate.__new__» ⟨[.type "enumerate", v], []⟩) (fun _ R s => Hh s.heap ∧
      R (.ok (.ret (.ref (s.heap.push o).objs.size))) { s with heap := (s.heap.push o).push { cls := .type "enumerate", data := .fields #[.none, .bool false, .ref s.heap.objs.size, rawInt 0, .none, .none] } }) :=
  .of_wp fun prog w A R s hyp => by
    obtain ⟨h0, g, d, tk, os⟩ := s
    obtain ⟨k1, k2⟩ := hyp
    have sub1 := sub_enumerate
    have gets : ∀ {B' : Around} {F : Value → Shared → Prop} {P : Value → Shared → Prop}, P (.ref h0.objs.size) ⟨h0.push o, g, d, tk, os⟩ → wpAny (model prog w) B' (pyIter v) P F ⟨h0, g, d, tk, os⟩ :=
      fun z => B.iter prog w _ _ ⟨h0, g, d, tk, os⟩ _ k1 z
    wp_walk using gets
    refine wpAny_stack_any fun st => wpAny_pure ?_
    split
    · rename_i c _ _ _ _ _
      cases (c == Value.type "enumerate") <;> (wp_walk using gets; exact ⟨_, rfl, k2⟩)
    · wp_walk using gets
      exact ⟨_, rfl, k2⟩
section
variable {prog : Program} {w : World} {A : Around} {E : Value → Shared → Prop} {s : Shared}
theorem en_call {t : Addr} {us : Array Value} {Q : Value → Shared → Prop} (tup : s.heap.IsTuple t us)
    (q : ∀ h', IsEnum h' (s.heap.objs.size + 1) s.heap.objs.size 0 .none → h'.IsTupleIter s.heap.objs.size t 0 → (∀ b o, s.heap.get? b = some o → h'.get? b = some o) → Q (.ref (s.heap.objs.size + 1)) { s with heap := h' }) :
    wpAny (model prog w) A (call (.type "enumerate") [.ref t]) Q E s := by
  refine callType_new F.called_enumerate (by decide) (F.typeCall_enumerate_1 _) (F.newCall_enumerate_1 _) (fun ob => F.args_object_init_2 ob _) F.entry_enumerate_new (en_meets (begins_tuple t us)) ⟨tup, ?_⟩
  have z1 : (s.heap.push { cls := .type "tuple_iterator", data := .fields #[.ref t, .int 0 0] }).objs.size = s.heap.objs.size + 1 := Heap.size_push ..
  show _ ∧ _
  rw [z1]
  have z2 := Heap.get?_push_size (s.heap.push { cls := .type "tuple_iterator", data := .fields #[.ref t, .int 0 0] }) (o := { cls := .type "enumerate", data := .fields #[.none, .bool false, .ref s.heap.objs.size, rawInt 0, .none, .none] }) rfl
  rw [z1] at z2
  exact ⟨⟨_, z2, rfl⟩, q _ z2 ⟨_, Heap.get?_push_of_some _ (Heap.get?_push_size _ rfl), rfl, rfl⟩ fun b o y => Heap.get?_push_of_some _ (Heap.get?_push_of_some _ y)⟩
end
/-! ### for i, x in enumerate(t) -/
def IteT (K : PySem.W.Frag) (a : Addr) : It :=
  ⟨fun i H => ∃ (xs : List V) (x : V), SqT K H a xs ∧ xs[i]? = some x, fun i H v H' => ∃ T x, v = .ref T ∧ H T = none ∧ H' = upd H T (.tup [.int (i : Nat), x]) ∧ ∀ xs, SqT K H a xs → xs[i]? = some x, fun i H => ∃ xs : List V, SqT K H a xs ∧ xs.length ≤ i⟩
theorem en_turn {P : Program} {w : World} {K : PySem.W.Frag} {elts : List Expr} {kk : Nat} {tpos : Pos} (a e it : Addr) :
    Turn P w K (.Tuple elts kk tpos) (IteT K a) [e, it] e (fun i h => (∃ old, IsEnum h e it ((i : Nat) : Int) old) ∧ h.IsTupleIter it a i ∧ e ≠ it ∧ a ≠ e ∧ a ≠ it) where
  mem := by simp
  obj := fun i h st b hb => by
    obtain ⟨⟨old, he⟩, ⟨o, ho, hc, hd⟩, _⟩ := st
    simp only [List.mem_cons, List.not_mem_nil, or_false] at hb
    rcases hb with rfl | rfl
    · exact ⟨_, he, fun v q => nomatch q⟩
    · exact ⟨o, ho, fun v q => by rw [hd] at q; cases q⟩
  keep := fun i h h' ⟨⟨old, he⟩, hi, r⟩ k => ⟨⟨old, k e (by simp) _ he⟩, hi.at fun o q => k it (by simp) o q, r⟩
  item := by
    intro X hP hw hK hc i pins s σ H E I hf ⟨⟨old, he⟩, hit, n1, n2, n3⟩ ⟨xs, x, hq, hx⟩
    subst hP hw hK
    obtain ⟨its, rv, p, hz⟩ := I.tuple hq
    obtain ⟨u, hu, ru⟩ := rv.get hx
    have p : s.heap.IsTuple a its.toArray := p
    have le : e < s.heap.objs.size := Heap.lt_size he
    have li : it < s.heap.objs.size := by obtain ⟨_, q, _⟩ := hit; exact Heap.lt_size q
    have hil : i < its.toArray.size := by
      have := (List.getElem?_eq_some_iff.mp hu).1
      simpa using this
    refine wpAny_pyNext_enum_itemD (Draws.tuple (A := X.A.in1) (show X.A.in1.handled = none from I.ok.hd hc) it a n3 its.toArray) he ⟨hit, p⟩ hil n1 (by simp [n1, n2.symm]) fun y h1 tk hy ho ⟨hit1, _⟩ hT _ hk => ?_
    have hy : y = u := by
      have hu' : its.toArray[i]? = some u := by simpa using hu
      rw [hu'] at hy; cases hy; rfl
    subst hy
    refine ⟨_, rfl, wpAny_letOwnedTupleGo_enum (s := { s with heap := h1, toks := tk + 1 }) ho fun h2 he2 sb => ?_⟩
    have hT2 : h2.get? s.heap.objs.size = some { cls := .type "tuple", data := .seq #[.int i tk, y] } := (sb.2 _ (Nat.ne_of_gt le)).trans hT
    have new : ObjOk X.prog X.w (upd H s.heap.objs.size (.tup [.int (i : Nat), x])) h2 s.heap.objs.size (.tup [.int (i : Nat), x]) :=
      ⟨by show 2 ≤ sizeLine; decide, [.int i tk, y], .cons ⟨_, rfl⟩ (.cons ru .nil), ⟨_, hT2, rfl, _, rfl⟩⟩
    have I1 : Inv X pins σ (upd H s.heap.objs.size (.tup [.int (i : Nat), x])) { s with heap := h2, toks := tk + 1 } :=
      I.turnedNew (ch := [e, it]) (fun b ob hb q => (sb.2 b (fun z => hb (by simp [z]))).trans (hk b ob (fun z => hb (by simp [z])) (fun z => hb (by simp [z])) q)) hf (Nat.le_refl _) new
    refine ⟨.ref s.heap.objs.size, _, I1, rfl, ⟨_, x, rfl, I.hok.fresh (Nat.le_refl _), rfl, fun ys hy => by rw [I.tuple_inj hy hq]; exact hx⟩, ⟨⟨y, ?_⟩, hit1.at fun o q => (sb.2 it (Ne.symm n1)).trans q, n1, n2, n3⟩, fun b hb => ?_⟩
    · have e1 : ((i + 1 : Nat) : Int) = (i : Int) + 1 := by omega
      rw [e1]; exact he2
    · have hb0 := (hf b hb).1
      have hb' : b < s.heap.objs.size := by
        simp only [List.mem_cons, List.not_mem_nil, or_false] at hb
        rcases hb with rfl | rfl
        · exact le
        · exact li
      rw [upd_ne (Nat.ne_of_lt hb')]
      exact hb0
  done := by
    intro X hP hw hK hc i pins s σ H E I hf ⟨⟨old, he⟩, hit, n1, n2, n3⟩ ⟨xs, hq, hx⟩
    subst hP hw hK
    obtain ⟨its, rv, p, hz⟩ := I.tuple hq
    have p : s.heap.IsTuple a its.toArray := p
    obtain ⟨f0, f1, f2, f3, f4, f5⟩ := hf it (by simp)
    have hl := rv.length
    by_cases hi : i = its.toArray.size
    · subst hi
      exact wpAny_pyNext_enum_endD (Draws.tuple (A := X.A.in1) (show X.A.in1.handled = none from I.ok.hd hc) it a n3 its.toArray) he ⟨hit, p⟩ fun h1 eb => ⟨rfl, I.turned (t' := s.toks) (fun b o hb q => eb b o hb q) f0 f1 f3 f4 f5⟩
    · have Dr : Draws X.prog X.w X.A.in1 it [it, a] i (fun j v => its.toArray[j]? = some v ∧ False) (fun j h => h.IsTupleIter it a j ∧ h.IsTuple a its.toArray ∧ its.toArray[i]? = none ∧ j = i) :=
        { live := fun _ _ st => let ⟨o, ho, _⟩ := st.1; ⟨o, ho⟩
          frame := fun _ _ _ st hk => ⟨st.1.at fun o e => hk it (by simp) o e, st.2.1.at fun o e => hk a (by simp) o e, st.2.2⟩
          item := fun j s Q E hj st _ => absurd st.2.2.2 (by omega)
          done := fun s Q E st hE => wpAny_nextOf_tuple_end (I.ok.hd hc) st.1 st.2.1 st.2.2.1 hE }
      exact wpAny_pyNext_enum_endD Dr he ⟨hit, p, by simp; omega, rfl⟩ fun h1 eb => ⟨rfl, I.turned (t' := s.toks) (fun b o hb q => eb b o hb q) f0 f1 f3 f4 f5⟩
  self := fun A i s Q E st h => let ⟨⟨_, he⟩, _⟩ := st; wpAny_pyIter_enum he h
def iEnT (K : PySem.W.Frag) (te : TE) : TI := fun σ H R => te σ H fun v H1 => ∃ a xs, v = .ref a ∧ SqT K H1 a xs ∧ R (IteT K a) H1
theorem pi_enT {X : Cx} {e : Expr} {te : TE} {p pos tpos : Pos} {elts : List Expr} {kk : Nat} (hg : Gl X "enumerate") (hm : X.mg "enumerate" = none) (he : PE X e te) (hse : nStar e = true) :
    PI X (.Tuple elts kk tpos) (.Call (.Name "enumerate" p) [e] [] pos) (iEnT X.K te) := by
  refine ⟨fun pins s σ H R I h => ?_⟩
  refine Call_ (ld_blt I hg hm boot_enumerate (PyProof.Rows.callWith_type1 ?_ (star_cons hse) rfl))
  rw [star_cons hse]
  show wpAny _ _ (spliced ((false, eval e X.env) :: backTo pos (starEach [] X.env))) _ _ s
  refine Calls.spliced_cons (thn (he.run pins s σ H _ I h) fun u s1 ⟨x, H1, I1, r1, a, xs, ex, hq, q⟩ => Calls.spliced_nil ?_)
  subst ex
  cases r1
  obtain ⟨its, rv, p', hz⟩ := I1.tuple hq
  have p' : s1.heap.IsTuple a its.toArray := p'
  have ha : a < s1.heap.objs.size := by obtain ⟨o, ho, _⟩ := p'; exact Heap.lt_size ho
  refine en_call p' fun h1 he1 hit1 hk => wpAny_pyIter_enum he1 ?_
  refine ⟨s1.heap.objs.size + 1, [s1.heap.objs.size + 1, s1.heap.objs.size], _, _, H1, rfl, I1.kept (t' := s1.toks) hk, en_turn a (s1.heap.objs.size + 1) s1.heap.objs.size, ⟨⟨.none, he1⟩, hit1, Nat.succ_ne_self _, Nat.ne_of_lt (Nat.lt_succ_of_lt ha), Nat.ne_of_lt ha⟩, fun b hb => ?_, q⟩
  have hle : s1.heap.objs.size ≤ b := by
    simp only [List.mem_cons, List.not_mem_nil, or_false] at hb
    rcases hb with rfl | rfl
    · exact Nat.le_add_right _ _
    · exact Nat.le_refl _
  exact I1.fpOk hle (I1.hok.fresh hle)
theorem enD_at {ds : List PyData} {i : Nat} {d : PyData} (h : (enD ds)[i]? = some d) : ∃ x, ds[i]? = some x ∧ d = .tuple [.int (i : Int), x] := by
  rw [enD, List.getElem?_mapIdx] at h
  cases q : ds[i]? with
  | none => rw [q] at h; cases h
  | some x => rw [q] at h; cases h; exact ⟨x, rfl, rfl⟩
theorem enD_len (ds : List PyData) : (enD ds).length = ds.length := by simp [enD]
theorem dw_enT {K : PySem.W.Frag} {S : List Addr} {H1 : Hp} {p : Addr} {xs : List V} {ds : List PyData} (ht : TupAt K S H1 p xs) (rs : Rps K S H1 ds xs) : DWalk K S H1 (IteT K p) (enD ds) := by
  have hl := rs.len
  have el : (enD ds).length = xs.length := by rw [enD_len, hl]
  refine ⟨fun H => SqT K H p xs, fun i H v H' => ∃ T x, v = .ref T ∧ H T = none ∧ H' = upd H T (.tup [.int (i : Nat), x]) ∧ xs[i]? = some x, ⟨fun i H hi hg => ⟨xs, xs[i]'(by omega), hg, List.getElem?_eq_getElem (by omega)⟩, fun H hg => ⟨xs, hg, by omega⟩, fun i H x H' hi hg ⟨T, y, e1, e2, e3, e4⟩ => ⟨T, y, e1, e2, e3, e4 xs hg⟩⟩, fun H' st => ?_, fun i H v H' hi st ⟨T, x, e1, hT, e3, hx⟩ => ?_⟩
  · rcases ht with ⟨n, e⟩ | ht
    · exact .inl (.inl (st p _ e n))
    · exact .inr ht
  · subst e1 e3
    refine ⟨Stp.new hT, fun S' d m t hd => ?_⟩
    obtain ⟨y, hy, rfl⟩ := enD_at hd
    obtain ⟨z, hz, rz⟩ := rs.get hy
    rw [hx] at hz; cases hz
    have r2 : Rp K S' (upd H T (.tup [.int (i : Nat), x])) y x := (rz.mv m).mv ((Stp.new (M := []) hT).mv fun _ hx => by cases hx)
    exact ⟨T, _, rfl, .inl ⟨t.out hT, upd_same⟩, .int (i : Nat), [x], rfl, rfl, x, [], rfl, r2, rfl⟩
end Dl
/-! text E1 -/
set_option Elab.async false
set_option linter.all false
set_option maxRecDepth 100000
set_option maxHeartbeats 1000000
namespace Dl
open PySem PySem.Spec PyProof.Rows L2
/-! ### list(enumerate(t)): the first pair stays out -/
section
variable {prog : Program} {w : World} {A : Around} {E : Value → Shared → Prop} {s : Shared}
theorem en_held {e it t T : Addr} {i : Nat} {us : Array Value} {x old : Value} {fl : Bool} {oT : Obj} {Q : Value → Shared → Prop}
    (st : IsEnumHeld s.heap e it i old T fl) (live : s.heap.get? T = some oT) (n1 : T ≠ e) (n2 : T ≠ it) (iter : s.heap.IsTupleIter it t i) (tup : s.heap.IsTuple t us) (hx : us[i]? = some x) (n3 : e ≠ it)
    (q : ∀ h', IsEnumHeld h' e it ((i : Int) + 1) old T true → h'.IsTupleIter it t (i + 1) → h'.get? s.heap.objs.size = some { cls := .type "tuple", data := .seq #[.int i s.toks, x] } →
      (∀ b o, b ≠ e → b ≠ it → s.heap.get? b = some o → h'.get? b = some o) → Q (.ref s.heap.objs.size) { s with heap := h', toks := s.toks + 1 }) :
    wpAny (model prog w) A (Builtin.«enumerate.__next__» ⟨[.ref e], []⟩) (fun fin s' => ∃ v, fin = .done (.ret v) ∧ Q v s') E s := by
  obtain ⟨ha, g, d, tk, os⟩ := s
  have le : e < ha.objs.size := Heap.lt_size st
  refine wpAny_bind (m := field (.ref e) 2) (wpAny_field st rfl (x := .ref it) rfl ?_)
  refine wpAny_bind (wpAny_nextOf_tuple_item iter tup hx fun hb iter1 sb1 => ?_)
  have sb1 : Heap.SameBut it ha hb := sb1
  have st1 : IsEnumHeld hb e it i old T fl := (sb1.2 e n3).trans st
  refine wpAny_bind (m := field (.ref e) 3) (s := ⟨hb, g, d, tk, os⟩) (wpAny_field st1 rfl (x := rawInt i) rfl ?_)
  refine wpAny_bind (m := field (.ref e) 4) (s := ⟨hb, g, d, tk, os⟩) (wpAny_field st1 rfl (x := .none) rfl ?_)
  refine wpAny_bind (m := mkInt i) (s := ⟨hb, g, d, tk, os⟩) (wpAny_mkInt ?_)
  refine wpAny_bind (m := setField (.ref e) 3 (rawInt ((i : Int) + 1))) (s := ⟨hb, g, d, tk + 1, os⟩) (wpAny_setField_rec st1 (by simp) fun hc st2 sb2 => ?_)
  have sb2 : Heap.SameBut e hb hc := sb2
  have st2 : IsEnumHeld hc e it ((i : Int) + 1) old T fl := st2
  refine wpAny_bind (m := setField (.ref e) 4 .none) (s := ⟨hc, g, d, tk + 1, os⟩) (wpAny_setField_rec st2 (by simp) fun hd st3 sb3 => ?_)
  have sb3 : Heap.SameBut e hc hd := sb3
  have st3 : IsEnumHeld hd e it ((i : Int) + 1) old T fl := st3
  refine wpAny_bind (m := newTuple [.int i tk, x]) (s := ⟨hd, g, d, tk + 1, os⟩) (wpAny_newTuple ?_)
  have z3 : hd.objs.size = ha.objs.size := by rw [sb3.1, sb2.1, sb1.1]
  have st4 : IsEnumHeld (hd.push { cls := .type "tuple", data := .seq #[.int i tk, x] }) e it ((i : Int) + 1) old T fl := Heap.get?_push_of_some _ st3
  have new4 : (hd.push { cls := .type "tuple", data := .seq #[.int i tk, x] }).get? ha.objs.size = some { cls := .type "tuple", data := .seq #[.int i tk, x] } := by rw [← z3]; exact Heap.get?_push_size _ rfl
  have keep4 : ∀ b o, b ≠ e → b ≠ it → ha.get? b = some o → (hd.push { cls := .type "tuple", data := .seq #[.int i tk, x] }).get? b = some o := fun b o h1 h2 z => Heap.get?_push_of_some _ (sb3.extBut b o h1 (sb2.extBut b o h1 (sb1.extBut b o h2 z)))
  have iter4 : (hd.push { cls := .type "tuple", data := .seq #[.int i tk, x] }).IsTupleIter it t (i + 1) := by
    obtain ⟨o, ho, r⟩ := iter1
    exact ⟨o, Heap.get?_push_of_some _ (sb3.extBut it o n3.symm (sb2.extBut it o n3.symm ho)), r⟩
  rw [z3]
  refine wpAny_bind (m := Builtin.SmallTypes.ownedTupleIsFree (.ref e)) (wpAny_tupleHeld_enum (s := ⟨hd.push { cls := .type "tuple", data := .seq #[.int i tk, x] }, g, d, tk + 1, os⟩) st4 (keep4 T oT n1 n2 live) fun hz st5 sb5 => ?_)
  have sb5 : Heap.SameBut e (hd.push { cls := .type "tuple", data := .seq #[.int i tk, x] }) hz := sb5
  simp only [Bool.false_eq_true, if_false]
  refine wpAny_pure ⟨_, rfl, q hz st5 ?_ (sb5.extBut _ _ (Nat.ne_of_gt le) new4) fun b o h1 h2 z => sb5.extBut b o h1 (keep4 b o h1 h2 z)⟩
  obtain ⟨o, ho, r⟩ := iter4
  exact ⟨o, sb5.extBut it o n3.symm ho, r⟩
/-- an enumerate at work -/
def EnAt (h : Heap) (e it : Addr) (i : Nat) : Prop :=
  (∃ old, IsEnum h e it ((i : Nat) : Int) old) ∨ ∃ old T fl oT, IsEnumHeld h e it ((i : Nat) : Int) old T fl ∧ h.get? T = some oT ∧ T ≠ e ∧ T ≠ it
theorem EnAt.type {e it : Addr} {i : Nat} (h : EnAt s.heap e it i) : s.TypeIs (.ref e) "enumerate" := by
  rcases h with ⟨_, h⟩ | ⟨_, _, _, _, h, _⟩ <;> exact ⟨_, h, rfl⟩
theorem EnAt.there {h : Heap} {e it : Addr} {i : Nat} (z : EnAt h e it i) : e < h.objs.size := by
  rcases z with ⟨_, z⟩ | ⟨_, _, _, _, z, _⟩ <;> exact Heap.lt_size z
theorem EnAt.keep {h h' : Heap} {e it : Addr} {i : Nat} {b0 : Addr} (z : EnAt h e it i) (hb : b0 ≠ e) (hT : ∀ T oT, h.get? T = some oT → T ≠ e → T ≠ it → ∃ o', h'.get? T = some o') (k : ∀ b o, b ≠ b0 → h.get? b = some o → h'.get? b = some o) : EnAt h' e it i := by
  rcases z with ⟨old, z⟩ | ⟨old, T, fl, oT, z, l, n1, n2⟩
  · exact .inl ⟨old, k e _ hb.symm z⟩
  · obtain ⟨o', ho⟩ := hT T oT l n1 n2
    exact .inr ⟨old, T, fl, o', k e _ hb.symm z, ho, n1, n2⟩
theorem en_item {e it t : Addr} {i : Nat} {us : Array Value} {x : Value} {Q : Option Value → Shared → Prop} (hh : A.handled = none) (st : EnAt s.heap e it i) (iter : s.heap.IsTupleIter it t i) (tup : s.heap.IsTuple t us) (hx : us[i]? = some x) (n1 : e ≠ it) (n2 : t ≠ e) (n3 : t ≠ it)
    (q : ∀ h' tk, EnAt h' e it (i + 1) → h'.IsTupleIter it t (i + 1) → h'.get? s.heap.objs.size = some { cls := .type "tuple", data := .seq #[.int i tk, x] } → (∀ b o, b ≠ e → b ≠ it → s.heap.get? b = some o → h'.get? b = some o) → Q (some (.ref s.heap.objs.size)) { s with heap := h', toks := tk + 1 }) :
    wpAny (model prog w) A (pyNext (.ref e)) Q E s := by
  have hle := st.there
  have hli : it < s.heap.objs.size := by obtain ⟨_, z, _⟩ := iter; exact Heap.lt_size z
  have ec : ((i + 1 : Nat) : Int) = (i : Int) + 1 := by omega
  have hil : i < us.size := (Array.getElem?_eq_some_iff.mp hx).1
  rcases st with ⟨old, st⟩ | ⟨old, T, fl, oT, st, live, m1, m2⟩
  · refine wpAny_pyNext_enum_itemD (Draws.tuple (A := A.in1) (show A.in1.handled = none from hh) it t n3 us) st ⟨iter, tup⟩ hil n1 (by simp [n1, n2.symm]) fun y h1 tk hy ho ⟨hit1, _⟩ hT _ hk => ?_
    have hy : y = x := by
      have hy : us[i]? = some y := hy
      rw [hx] at hy; cases hy; rfl
    subst hy
    exact q h1 tk (.inr ⟨y, s.heap.objs.size, false, _, by rw [ec]; exact ho, hT, Nat.ne_of_gt hle, Nat.ne_of_gt hli⟩) hit1 hT hk
  · have ty : s.TypeIs (.ref e) "enumerate" := ⟨_, st, rfl⟩
    unfold pyNext
    refine wpAny_bind (wpAny_attempt (wpAny_callSpecial?_slot (name := Str.ofString "__next__") ty F.slot_enumerate_next (wpAny_call_entry F.slot_enumerate_next ty F.entry_enumerate_next ?_ (F.args_enumerate_next_1 _))))
    exact en_held st live m1 m2 iter tup hx n1 fun h1 st1 it1 new k => wpAny_pure (q h1 s.toks (.inr ⟨old, T, true, oT, by rw [ec]; exact st1, k T oT m1 m2 live, m1, m2⟩) it1 new k)
theorem en_done {e it t : Addr} {us : Array Value} {Q : Option Value → Shared → Prop} (hh : A.handled = none) (st : EnAt s.heap e it us.size) (iter : s.heap.IsTupleIter it t us.size) (tup : s.heap.IsTuple t us) (n3 : t ≠ it)
    (q : ∀ h', Heap.ExtBut it s.heap h' → Q none { s with heap := h' }) : wpAny (model prog w) A (pyNext (.ref e)) Q E s := by
  have ty := st.type
  unfold pyNext
  refine wpAny_bind (wpAny_attempt (wpAny_callSpecial?_slot (name := Str.ofString "__next__") ty F.slot_enumerate_next (wpAny_call_entry F.slot_enumerate_next ty F.entry_enumerate_next ?_ (F.args_enumerate_next_1 _))))
  have fin : ∀ {P : Fin → Shared → Prop} , True → wpAny (model prog w) A.in1 (Builtin.SmallTypes.nextOf (.ref it)) (fun _ _ => False) (fun v s' => ∃ h' a, v = .ref a ∧ Heap.ExtBut it s.heap h' ∧ (∃ o, h'.get? a = some o ∧ o.cls = .type "StopIteration") ∧ s' = { s with heap := h' }) s := fun _ =>
    wpAny_nextOf_tuple_end hh iter tup (by simp) fun h' a e1 e2 => ⟨h', a, rfl, e1, e2, rfl⟩
  rcases st with ⟨old, st⟩ | ⟨old, T, fl, oT, st, live, m1, m2⟩
  all_goals
    refine wpAny_bind (m := field (.ref e) 2) (wpAny_field st rfl (x := .ref it) rfl ?_)
    refine wpAny_bind (wpAny_nextOf_tuple_end hh iter tup (by simp) fun h' a e1 e2 => ?_)
    obtain ⟨o, ho, hc⟩ := e2
    refine wpAny_bind (wpAny_isInstance (T := "StopIteration") (b := true) ⟨o, ho, hc⟩ isSubtype_stop ?_)
    exact wpAny_pure (q _ e1)
end
/-- the pairs made so far -/
def EnAcc (H1 : Hp) (xs : List V) (H : Hp) (acc : List V) : Prop := ∀ (j : Nat) y, acc[j]? = some y → ∃ T x, y = .ref T ∧ xs[j]? = some x ∧ H T = some (.tup [.int (j : Nat), x]) ∧ H1 T = none
section
variable {X : Cx} {pins : List (Addr × Obj)} {σ : L2.St} {H1 : Hp} {xs : List V} {S e it t : Addr} {R : Result → Shared → Prop} {B : Around} {res : Value}
theorem en_loop (hh : B.handled = none) (n1 : e ≠ it) (n2 : t ≠ e) (n3 : t ≠ it) (hS1 : H1 S = none) (hlen : xs.length ≤ 1000)
    (fin : ∀ s' acc' H', Inv X pins σ H' s' → H' S = some (.lst acc') → acc'.length = xs.length → EnAcc H1 xs H' acc' → Stp [] H1 H' → R (.ok (.ret res)) s') :
    ∀ (k i : Nat) (s : Shared) (acc : List V) (Hi : Hp), xs.length - i = k → i ≤ xs.length → Inv X pins σ Hi s → Hi S = some (.lst acc) → acc.length = i → (∀ b ∈ [e, it], FpOk X pins Hi b) → SqT X.K Hi t xs → EnAt s.heap e it i → s.heap.IsTupleIter it t i → EnAcc H1 xs Hi acc → Stp [] H1 Hi →
      codeAny (model X.prog X.w) B (.builtin "list.extend.loop" ⟨[.ref S, .ref e, res], []⟩) R s := by
  intro k
  induction k with
  | zero =>
    intro i s acc Hi hk hi I hS ha hf ht st iter hacc sp
    have hin : i = xs.length := by omega
    obtain ⟨its, rv, p, hz⟩ := I.tuple ht
    have p : s.heap.IsTuple t its.toArray := p
    have hl : its.toArray.size = xs.length := by rw [List.size_toArray, rv.length]
    obtain ⟨f0, f1, f2, f3, f4, f5⟩ := hf it (by simp)
    refine codeAny_builtin F.entry_extend_loop ?_
    rw [Around.under_plainId F.plain_extend_loop _]
    rw [hin, ← hl] at st iter
    refine wpAny_bind (m := pyNext (.ref e)) (en_done hh st iter p n3 fun h1 eb => ?_)
    have I1 : Inv X pins σ Hi { s with heap := h1 } := I.turned (t' := s.toks) (fun b o hb q => eb b o hb q) f0 f1 f3 f4 f5
    exact wpAny_pure (fin _ acc Hi I1 hS (by omega) hacc sp)
  | succ k ih =>
    intro i s acc Hi hk hi I hS ha hf ht st iter hacc sp
    have hlt : i < xs.length := by omega
    obtain ⟨its, rv, p, hz⟩ := I.tuple ht
    have p : s.heap.IsTuple t its.toArray := p
    obtain ⟨x, hx⟩ : ∃ x, xs[i]? = some x := ⟨xs[i], List.getElem?_eq_getElem hlt⟩
    obtain ⟨u, hu, ru⟩ := rv.get hx
    have le := st.there
    have li : it < s.heap.objs.size := by obtain ⟨_, z, _⟩ := iter; exact Heap.lt_size z
    refine codeAny_builtin F.entry_extend_loop ?_
    rw [Around.under_plainId F.plain_extend_loop _]
    refine wpAny_bind (m := pyNext (.ref e)) (en_item hh st iter p (x := u) (by simpa using hu) n1 n2 n3 fun h1 tk st1 iter1 new k1 => ?_)
    have ob : ObjOk X.prog X.w (upd Hi s.heap.objs.size (.tup [.int (i : Nat), x])) h1 s.heap.objs.size (.tup [.int (i : Nat), x]) :=
      ⟨by show 2 ≤ sizeLine; decide, [.int i tk, u], .cons ⟨_, rfl⟩ (.cons ru .nil), ⟨_, new, rfl, _, rfl⟩⟩
    have I1 : Inv X pins σ (upd Hi s.heap.objs.size (.tup [.int (i : Nat), x])) { s with heap := h1, toks := tk + 1 } :=
      I.turnedNew (ch := [e, it]) (fun b ob hb q => k1 b ob (fun z => hb (by simp [z])) (fun z => hb (by simp [z])) q) hf (Nat.le_refl _) ob
    have nT : Hi s.heap.objs.size = none := I.hok.fresh (Nat.le_refl _)
    have hST : S ≠ s.heap.objs.size := ne_of_none hS nT
    have hS2 : (upd Hi s.heap.objs.size (.tup [.int (i : Nat), x])) S = some (.lst acc) := by rw [upd_ne hST]; exact hS
    obtain ⟨z, its2, n, r, hl, e2⟩ := I1.lstM hS2
    have hSe : S ≠ e := ne_of_none hS (hf e (by simp)).1
    have hSi : S ≠ it := ne_of_none hS (hf it (by simp)).1
    refine wpAny_bind (m := updateSeq S (·.push (.ref s.heap.objs.size))) (s := { s with heap := h1, toks := tk + 1 }) ?_
    refine wpAny_updateSeq e2 rfl (wpAny_pure ⟨plainId_quiet F.plain_extend_loop _, ?_⟩) (by rw [List.size_toArray]; have : sizeLine = 16777216 := sizeLine_eq; omega) (by rw [Array.size_push, List.size_toArray]; have : sizeLine = 16777216 := sizeLine_eq; omega)
    have I2 := I1.lset (t' := tk + 1) (its' := its2 ++ [.ref s.heap.objs.size]) (ys := acc ++ [.ref s.heap.objs.size]) hS2 e2 (f := (·.push (.ref s.heap.objs.size))) (by simp) (r.append (.cons (show L2.RelV (V.ref s.heap.objs.size) (Value.ref s.heap.objs.size) from rfl) .nil)) (by rw [List.length_append, List.length_singleton]; have : sizeLine = 16777216 := sizeLine_eq; omega)
    have oth : ∀ b o, b ≠ S → h1.get? b = some o → (h1.update S (Obj.mapSeq (·.push (.ref s.heap.objs.size)))).get? b = some o := fun b o hb z => (Heap.get?_update_other _ _ hb.symm).trans z
    refine ih (i + 1) _ (acc ++ [.ref s.heap.objs.size]) _ (by omega) hlt I2 upd_same (by rw [List.length_append, List.length_singleton, ha]) (fun b hb => ?_) ?_ ?_ ?_ (fun j y hy => ?_) (fun b o hb _ => ?_)
    · obtain ⟨f0, fr⟩ := hf b hb
      refine ⟨?_, fr⟩
      have hb1 : b ≠ S := fun z => by rw [z, hS] at f0; cases f0
      have hb2 : b ≠ s.heap.objs.size := by
        simp only [List.mem_cons, List.not_mem_nil, or_false] at hb
        rcases hb with rfl | rfl
        · exact Nat.ne_of_lt le
        · exact Nat.ne_of_lt li
      rw [upd_ne hb1, upd_ne hb2]; exact f0
    · rcases ht with (ht | ⟨o, ht⟩) | ht
      · have a1 : t ≠ s.heap.objs.size := ne_of_none ht nT
        have a2 : t ≠ S := fun z => by rw [z, hS] at ht; cases ht
        exact .inl (.inl (by rw [upd_ne a2, upd_ne a1]; exact ht))
      · have a1 : t ≠ s.heap.objs.size := ne_of_none ht nT
        have a2 : t ≠ S := fun z => by rw [z, hS] at ht; cases ht
        exact .inl (.inr ⟨o, by rw [upd_ne a2, upd_ne a1]; exact ht⟩)
      · exact .inr ht
    · refine st1.keep (b0 := S) hSe (fun T oT l m1 m2 => ?_) oth
      by_cases hT : T = S
      · subst hT
        exact ⟨_, Heap.get?_update_self _ e2 rfl⟩
      · exact ⟨oT, oth T oT hT l⟩
    · obtain ⟨o, ho, r'⟩ := iter1
      exact ⟨o, oth it o hSi.symm ho, r'⟩
    · by_cases hj : j < acc.length
      · rw [List.getElem?_append_left hj] at hy
        obtain ⟨T, v, e1, e2, e3, e4⟩ := hacc j y hy
        have a1 : T ≠ s.heap.objs.size := ne_of_none e3 nT
        have a2 : T ≠ S := fun z => by rw [z, hS] at e3; cases e3
        exact ⟨T, v, e1, e2, by rw [upd_ne a2, upd_ne a1]; exact e3, e4⟩
      · rw [List.getElem?_append_right (by omega)] at hy
        have hz : j - acc.length = 0 := by
          cases q : j - acc.length with
          | zero => rfl
          | succ m => rw [q] at hy; simp at hy
        rw [hz] at hy
        simp only [List.getElem?_cons_zero, Option.some.injEq] at hy
        have ej : j = i := by omega
        subst ej
        refine ⟨s.heap.objs.size, x, hy.symm, hx, by rw [upd_ne hST.symm, upd_same], ?_⟩
        cases q : H1 s.heap.objs.size with
        | none => rfl
        | some o =>
          have := sp _ _ q (by simp)
          rw [nT] at this; cases this
    · have a1 : b ≠ s.heap.objs.size := ne_of_none (sp b o hb (by simp)) nT
      have a2 : b ≠ S := ne_of_none hb hS1
      rw [upd_ne a2, upd_ne a1]
      exact sp b o hb (by simp)
end
theorem en_nolen : typeLookup (.type "enumerate") "__len__" = pure none := by rw [typeLookup_type, builtinLookup_eq_fast]; kernel_rfl
theorem en_nohint : typeLookup (.type "enumerate") "__length_hint__" = pure none := by rw [typeLookup_type, builtinLookup_eq_fast]; kernel_rfl
section
variable {X : Cx} {pins : List (Addr × Obj)} {σ : L2.St} {H1 : Hp} {xs : List V} {e it t : Addr} {s : Shared}
theorem en_extend {B : Around} {R : Result → Shared → Prop} {S : Addr} {Hi : Hp} (hh : B.handled = none) (n1 : e ≠ it) (n2 : t ≠ e) (n3 : t ≠ it) (hS1 : H1 S = none) (hlen : xs.length ≤ 1000)
    (fin : ∀ s' acc' H', Inv X pins σ H' s' → H' S = some (.lst acc') → acc'.length = xs.length → EnAcc H1 xs H' acc' → Stp [] H1 H' → R (.ok (.ret .none)) s')
    (I : Inv X pins σ Hi s) (hS : Hi S = some (.lst [])) (hf : ∀ b ∈ [e, it], FpOk X pins Hi b) (ht : SqT X.K Hi t xs) (st : IsEnum s.heap e it 0 .none) (iter : s.heap.IsTupleIter it t 0) (sp : Stp [] H1 Hi) :
    wpAny (model X.prog X.w) B.in1 (Builtin.List.listExtendWith (.ref S) (.ref e) .none)
      (fun fin s' => match fin with | .done f => R (.ok f) s' | .again c' => c'.quiet = true ∧ codeAny (model X.prog X.w) B c' R s') (fun e s' => R (.error e) s') s := by
  have hSe : S ≠ e := ne_of_none hS (hf e (by simp)).1
  have hSi : S ≠ it := ne_of_none hS (hf it (by simp)).1
  have ty : s.TypeIs (.ref e) "enumerate" := ⟨_, st, rfl⟩
  obtain ⟨z, its, n, r, hl, eS⟩ := I.lstM hS
  have hits : its = [] := by
    cases its with
    | nil => rfl
    | cons a b => cases hl
  subst hits
  unfold Builtin.List.listExtendWith
  refine wpAny_bind (wpAny_typeOf ty ?_)
  have b1 : Builtin.List.listSameRef (.ref S) (.ref e) = false := by simp [Builtin.List.listSameRef, hSe]
  have b2 : (Value.type "enumerate" == Value.type "list") = false := by decide
  have b3 : (Value.type "enumerate" == Value.type "tuple") = false := by decide
  simp only [b1, b2, b3, Bool.or_false, Bool.false_eq_true, if_false]
  refine wpAny_bind (wpAny_pyIter_enum st ?_)
  refine wpAny_bind (wpAny_holding ?_)
  unfold Builtin.List.listLengthHint
  refine wpAny_bind (wpAny_specialOf ty en_nolen ?_)
  refine wpAny_bind (m := specialOf (Value.ref e) (Str.ofString "__length_hint__")) (wpAny_specialOf ty en_nohint ?_)
  refine wpAny_pure ?_
  refine wpAny_bind (m := rule "list.extend.makes-room") (wpAny_rule ?_)
  refine wpAny_bind (m := updateSeq S (·.push .none) >>= fun _ => updateSeq S (·.pop)) ?_
  refine wpAny_bind (wpAny_updateSeq eS rfl ?_)
  have I1 := I.lset (t' := s.toks) (its' := [.none]) (ys := [.non]) hS eS (f := (·.push .none)) (by simp) (.cons rfl .nil) (by decide)
  have e1 := Heap.get?_update_self (Obj.mapSeq (·.push Value.none)) eS rfl
  refine wpAny_updateSeq (hz := by seq_fits) e1 rfl ?_
  obtain ⟨z2, its2, m2, r2, hl2, e2⟩ := I1.lstM upd_same
  have I2 := I1.lset (t' := s.toks) (its' := []) (ys := []) upd_same e2 (f := (·.pop)) (by
    have : its2 = [.none] := by
      cases r2 with
      | cons a b =>
        cases b
        cases a
        rfl
    rw [this]; rfl) .nil (Nat.zero_le _)
  have oth : ∀ b o, b ≠ S → s.heap.get? b = some o → ((s.heap.update S (Obj.mapSeq (·.push Value.none))).update S (Obj.mapSeq (·.pop))).get? b = some o :=
    fun b o hb y => (Heap.get?_update_other _ _ hb.symm).trans ((Heap.get?_update_other _ _ hb.symm).trans y)
  have upd2 : ∀ b, b ≠ S → (upd (upd Hi S (.lst [.non])) S (.lst [])) b = Hi b := fun b hb => by rw [upd_ne hb, upd_ne hb]
  refine wpAny_pure ⟨plainId_quiet F.plain_extend_loop _, en_loop hh n1 n2 n3 hS1 hlen fin xs.length 0 _ [] _ (by omega) (Nat.zero_le _) I2 upd_same rfl (fun b hb => ?_) ?_ (.inl ⟨.none, oth e _ hSe.symm st⟩) ?_ (fun j y hy => by simp at hy) (fun b o hb _ => ?_)⟩
  · obtain ⟨f0, fr⟩ := hf b hb
    have hb1 : b ≠ S := fun z => by rw [z, hS] at f0; cases f0
    exact ⟨by rw [upd2 b hb1]; exact f0, fr⟩
  · rcases ht with (ht | ⟨o, ht⟩) | ht
    · have a2 : t ≠ S := fun z => by rw [z, hS] at ht; cases ht
      exact .inl (.inl (by rw [upd2 t a2]; exact ht))
    · have a2 : t ≠ S := fun z => by rw [z, hS] at ht; cases ht
      exact .inl (.inr ⟨o, by rw [upd2 t a2]; exact ht⟩)
    · exact .inr ht
  · obtain ⟨o, ho, r'⟩ := iter
    exact ⟨o, oth it o hSi.symm ho, r'⟩
  · rw [upd2 b (ne_of_none hb hS1)]
    exact sp b o hb (by simp)
theorem en_list {E : Value → Shared → Prop} {Q : VK} (I : Inv X pins σ H1 s) (hA : X.A.handled = none) (st : IsEnum s.heap e it 0 .none) (iter : s.heap.IsTupleIter it t 0) (hf : ∀ b ∈ [e, it], FpOk X pins H1 b) (ht : SqT X.K H1 t xs) (n1 : e ≠ it) (n2 : t ≠ e) (n3 : t ≠ it) (hlen : xs.length ≤ 1000)
    (q : ∀ D acc H', acc.length = xs.length → EnAcc H1 xs H' acc → H' D = some (.lst acc) → Stp [] H1 H' → H1 D = none → Q (.ref D) H') : wpAny (model X.prog X.w) X.A (call (.type "list") [.ref e]) (EP X pins σ Q) E s := by
  refine callType_codes (Q₁ := fun obj s1 => obj = .ref s.heap.objs.size ∧ s1 = { s with heap := s.heap.push { cls := .type "list", data := .seq #[] } }) F.called_list (F.typeCall_list_1 _) F.entry_list_init (code_list_new _ ⟨rfl, rfl⟩) fun obj s1 e1 => ?_
  obtain ⟨rfl, rfl⟩ := e1
  have nS : H1 s.heap.objs.size = none := I.hok.fresh (Nat.le_refl _)
  have le : e < s.heap.objs.size := Heap.lt_size st
  have li : it < s.heap.objs.size := by obtain ⟨_, z, _⟩ := iter; exact Heap.lt_size z
  have hS : (s.heap.push { cls := .type "list", data := .seq #[] }).get? s.heap.objs.size = some { cls := .type "list", data := .seq #[] } := Heap.get?_push_size _ rfl
  refine ⟨⟨_, hS, rfl⟩, F.args_list_init_2 _ _, ?_⟩
  have I0 : Inv X pins σ (upd H1 s.heap.objs.size (.lst [])) { s with heap := s.heap.push { cls := .type "list", data := .seq #[] } } := I.lnew (its := []) (t' := s.toks) .nil (Nat.zero_le _)
  refine wpAny_bind (m := Builtin.List.listItems (.ref s.heap.objs.size)) (s := { s with heap := s.heap.push { cls := .type "list", data := .seq #[] } }) ?_
  unfold Builtin.List.listItems
  refine wpAny_bind (wpAny_seqItems hS rfl (wpAny_pure ?_))
  refine wpAny_bind (m := updateSeq s.heap.objs.size (fun _ => #[])) (wpAny_updateSeq hS rfl ?_)
  have I1 := I0.lset (t' := s.toks) (its' := []) (ys := []) upd_same hS (f := fun _ => #[]) rfl .nil (Nat.zero_le _)
  have oth : ∀ b o, b < s.heap.objs.size → s.heap.get? b = some o → ((s.heap.push { cls := .type "list", data := .seq #[] }).update s.heap.objs.size (Obj.mapSeq (fun _ => (#[] : Array Value)))).get? b = some o :=
    fun b o hb y => (Heap.get?_update_other _ _ (Nat.ne_of_gt hb)).trans (Heap.get?_push_of_some _ y)
  refine wpAny_bind (wpAny_letGo ?_)
  have upd2 : ∀ b, b ≠ s.heap.objs.size → (upd (upd H1 s.heap.objs.size (.lst [])) s.heap.objs.size (.lst [])) b = H1 b := fun b hb => by rw [upd_ne hb, upd_ne hb]
  refine en_extend (B := X.A.in1) (H1 := H1) hA n1 n2 n3 nS hlen (fun s' acc' H' I' hD hl ha sp => ?_) I1 upd_same (fun b hb => ?_) ?_ (oth e _ le st) ?_ (fun b o hb _ => ?_)
  · exact ⟨rfl, .ref s.heap.objs.size, H', I', rfl, q _ acc' H' hl ha hD sp nS⟩
  · obtain ⟨f0, fr⟩ := hf b hb
    have hb1 : b ≠ s.heap.objs.size := by
      simp only [List.mem_cons, List.not_mem_nil, or_false] at hb
      rcases hb with rfl | rfl
      · exact Nat.ne_of_lt le
      · exact Nat.ne_of_lt li
    exact ⟨by rw [upd2 b hb1]; exact f0, fr⟩
  · rcases ht with (ht | ⟨o, ht⟩) | ht
    · exact .inl (.inl (by rw [upd2 t (ne_of_none ht nS)]; exact ht))
    · exact .inl (.inr ⟨o, by rw [upd2 t (ne_of_none ht nS)]; exact ht⟩)
    · exact .inr ht
  · obtain ⟨o, ho, r'⟩ := iter
    exact ⟨o, oth it o li ho, r'⟩
  · rw [upd2 b (ne_of_none hb nS)]; exact hb
end
section
variable {X : Cx} {W : Wd} {S : List Addr} {G : List (Addr × MO)} {δ : List Sl} {e : Expr} {es : List Expr} {pos : Pos} {ds : List PyData}
theorem en_rps {K : PySem.W.Frag} {S' : List Addr} {H' : Hp} {xs acc : List V} {H1 : Hp} (ha : EnAcc H1 xs H' acc) (hS : ∀ T vs, H' T = some (.tup vs) → H1 T = none → T ∉ S') : ∀ {ds : List PyData} (k : Nat), Rps K S' H' (ds.drop k) (xs.drop k) → acc.length = xs.length → ds.length = xs.length → Rps K S' H' ((enD ds).drop k) (acc.drop k) := by
  intro ds k hr hl hl2
  induction hn : xs.length - k generalizing k with
  | zero =>
    rw [List.drop_eq_nil_of_le (by rw [enD_len]; omega), List.drop_eq_nil_of_le (by omega)]
    exact rfl
  | succ n ih =>
    have hk : k < xs.length := by omega
    have h1 : k < acc.length := by omega
    have h2 : k < (enD ds).length := by rw [enD_len]; omega
    have h3 : k < ds.length := by omega
    rw [List.drop_eq_getElem_cons h3, List.drop_eq_getElem_cons hk] at hr
    obtain ⟨v, vs', e1, r1, r2⟩ := hr
    injection e1 with e1 e2
    subst e2
    rw [List.drop_eq_getElem_cons h2, List.drop_eq_getElem_cons h1]
    refine .cons ?_ (ih (k + 1) r2 (by omega))
    obtain ⟨T, x, a1, a2, a3, a4⟩ := ha k acc[k] (List.getElem?_eq_getElem h1)
    obtain ⟨d, b1, b2⟩ := enD_at (List.getElem?_eq_getElem h2)
    rw [b2, a1]
    have ex : x = v := by
      rw [List.getElem?_eq_getElem hk] at a2
      cases a2; exact e1
    have ed : d = ds[k] := by
      rw [List.getElem?_eq_getElem h3] at b1
      cases b1; rfl
    subst ex ed
    exact ⟨T, _, rfl, .inl ⟨hS T _ a3 a4, a3⟩, .int (k : Nat), [x], rfl, rfl, x, [], rfl, r1, rfl⟩
/-- list(enumerate(t)) -/
theorem ne_listEnum {p p1 p2 : Pos} (hc : X.calm = true) (hm : X.mg "list" = none) (hr : X.mg "enumerate" = none) (ha : DE X W S G δ e (fun z => z = .tuple ds)) (hn : ds.length ≤ 1000) (hg : Gl X "list" := by rfl) (hg2 : Gl X "enumerate" := by rfl) (hse : nStar e = true := by rfl) : NE X W S G δ (.Call (.Name "list" p) [.Call (.Name "enumerate" p1) [e] [] p2] [] pos) (fun es => es = enD ds) := fun σ H C Q q => by
  intro pins s I
  refine Call_ (ld_blt I hg hm PyProof.Rows.boot_list (PyProof.Rows.callWith_type1 ?_ (star_cons rfl) rfl))
  rw [star_cons (e := .Call (.Name "enumerate" p1) [e] [] p2) rfl]
  show wpAny _ _ (spliced ((false, eval (.Call (.Name "enumerate" p1) [e] [] p2) X.env) :: backTo pos (starEach [] X.env))) _ _ s
  refine Calls.spliced_cons (Call_ (ld_blt I hg2 hr boot_enumerate (PyProof.Rows.callWith_type1 ?_ (star_cons hse) rfl)))
  rw [star_cons hse]
  show wpAny _ _ (spliced ((false, eval e X.env) :: backTo p2 (starEach [] X.env))) _ _ s
  refine Calls.spliced_cons (thn (ha σ H C (fun v H1 => Dl.Ctx X.K W S G δ σ H1 ∧ Stp W.M H H1 ∧ ∃ t xs, v = .ref t ∧ TupAt X.K S H1 t xs ∧ Rps X.K S H1 ds xs) (fun v H1 d C1 s1 ed rv => by
    subst ed
    obtain ⟨t, xs, e1, r1, r2⟩ := rv
    exact ⟨C1, s1, t, xs, e1, r1, r2⟩) pins s I) fun u s1 ⟨x, H1, I1, r1, C1, st1, t, xs, ex, hq, rs⟩ => Calls.spliced_nil ?_)
  subst ex
  cases r1
  obtain ⟨its, rv, p', hz⟩ := I1.tuple hq.sq
  have p' : s1.heap.IsTuple t its.toArray := p'
  have ha : t < s1.heap.objs.size := by obtain ⟨o, ho, _⟩ := p'; exact Heap.lt_size ho
  refine en_call p' fun h1 he1 hit1 hk => Calls.spliced_nil ?_
  have I2 : Inv X pins σ H1 { s1 with heap := h1 } := I1.kept (t' := s1.toks) hk
  refine en_list I2 (I1.ok.hd hc) he1 hit1 (fun b hb => ?_) hq.sq (Nat.succ_ne_self _) (Nat.ne_of_lt (Nat.lt_succ_of_lt ha)) (Nat.ne_of_lt ha) (by rw [rs.len]; exact hn) fun D acc H' hl hacc hD sp nD => ?_
  · have hle : s1.heap.objs.size ≤ b := by
      simp only [List.mem_cons, List.not_mem_nil, or_false] at hb
      rcases hb with rfl | rfl
      · exact Nat.le_add_right _ _
      · exact Nat.le_refl _
    exact I1.fpOk hle (I1.hok.fresh hle)
  · have rs' : Rps X.K (D :: S) H' ds xs := rs.mv fun b o hb hbS => ⟨sp b o hb (by simp), fun z => by
      rcases List.mem_cons.mp z with z | z
      · rw [z, nD] at hb; cases hb
      · exact hbS z⟩
    refine q D H' (enD ds) acc (C1.ext sp) (st1.trans sp.nil) (C.back C1 st1 nD) hD rfl ?_
    have := en_rps (S' := D :: S) (ds := ds) hacc (fun T vs hT nT z => ?_) 0 (by simpa using rs') hl rs.len.symm
    · simpa using this
    · rcases List.mem_cons.mp z with z | z
      · rw [z, hD] at hT; cases hT
      · exact C1.trk T z nT
/-- for i, x in enumerate(t) -/
theorem it_enumT {p1 p2 tp : Pos} {kk : Nat} (hc : X.calm = true) (hr : X.mg "enumerate" = none) (ha : DE X W S G δ e (fun z => z = .tuple ds)) (hg2 : Gl X "enumerate" := by rfl) (hse : nStar e = true := by rfl) : IT X W S G δ (.Tuple es kk tp) (.Call (.Name "enumerate" p1) [e] [] p2) (enD ds) := fun σ H C R q => by
  refine IEx.of (pi_enT hg2 hr pee hse) (ha σ H C _ fun v H1 d C1 s1 e1 rv => ?_)
  subst e1
  obtain ⟨p, xs, rfl, ht, rs⟩ := rv
  exact ⟨p, xs, rfl, ht.sq, q _ H1 C1 s1 (dw_enT ht rs)⟩
end
end Dl
/-! text A17 -/
set_option Elab.async false
set_option linter.all false
set_option maxRecDepth 100000
set_option maxHeartbeats 4000000
namespace K53
open PySem PySem.Spec PyProof.Rows L2 Dl
local macro_rules | `(tactic| walk_at "fl") => `(tactic| first | rfl | assumption | (simp only [*]; done) | decide)
theorem bk_L_function_1 : BlkOk ["_law_deal", "_law_header", "_law_headers", "_law_names", "_law_many", "_law_web_here", "_law_heads", "_law_turn", "_law_at", "_law_numbers", "_law_scene", "_law_near", "_law_blocks", "_law_made_here", "_law_place", "_law_here", "_law_other", "_law_ahead", "_law_order"] (scs (defBody s_L_function) 0) (scs (defBody s_L_function) 1) [("_law_turn", 7)] := ⟨by decide +kernel, by decide +kernel, by decide +kernel, by decide +kernel, by decide +kernel⟩
theorem _root_.Dl.Ctx.many {K : PySem.W.Frag} {W : Wd} {S : List Addr} {G G' : List (Addr × MO)} {δ : List Sl} {σ : L2.St} {H H' : Hp} (C : Dl.Ctx K W S G δ σ H) {M : List Addr} (st : Stp M H H') (hM : ∀ a ∈ M, a ∈ S) (h0 : ∀ a ∈ M, a ∈ W.M0 ∨ W.H0 a = none) (tr : ∀ a ∈ M, H' a ≠ none) (hd : ∀ dl cl, W.M = [dl, cl] → Deal H' dl cl)
    (ho : ∀ p ∈ G', Obj1 K S H' p.1 p.2 ∧ ∃ mo, (p.1, mo) ∈ G) : Dl.Ctx K W S G' δ σ H' := by
  refine ⟨C.env.mv (st.mv hM), ?_, C.ms, fun p hp => ?_, fun a ha => ?_, fun b o e n => ?_⟩
  · rcases C.deal with e | ⟨dl, cl, e, _⟩
    · exact .inl e
    · exact .inr ⟨dl, cl, e, hd dl cl e⟩
  · obtain ⟨h1, mo, h2⟩ := ho p hp
    obtain ⟨_, a2, a3, a4⟩ := C.objs _ h2
    exact ⟨h1, a2, a3, a4⟩
  · by_cases z : a ∈ M
    · exact tr a z
    · intro z2
      cases q : H a with
      | none => exact C.trk a ha q
      | some o => rw [st a o q z] at z2; cases z2
  · refine st b o (C.fr b o e n) fun z => ?_
    rcases h0 b z with h | h
    · exact n h
    · rw [h] at e; cases e
/-- a function -/
structure FnR where
  name : PyData
  tys : List PyData
  res : PyData
  blocks : List BlkR
  L : List Nat
def FnR.d (f : FnR) : PyData := .tuple [f.name, .tuple f.tys, f.res, .tuple (f.blocks.map BlkR.d)]
structure FnD (f : FnR) : Prop where
  bl : ∀ b ∈ f.blocks, BlkD f.L b
  nd : (f.blocks.map (·.label)).Nodup
  tg : ∀ b ∈ f.blocks, ∀ t ∈ b.tg, t ∈ f.blocks.map (·.label)
  ne : f.blocks ≠ []
  len : f.blocks.length ≤ 6
  nm : isT f.name = true
  Ll : f.L.length = 50
structure FnPre where
  f : PyData
  tys : List PyData
  t : PyData
  hs : List PyData
  names : List PyData
abbrev preFn (x : FnPre) (ds : List PyData) : Prop := ds = [.tuple [x.f, .tuple x.tys, x.t], .list x.hs, .list x.names] ∧ isT x.f = true ∧ x.tys.all isS = true ∧ x.tys.length ≤ 3 ∧ isN x.t = true ∧ x.hs ≠ [] ∧ x.hs.length ≤ 1000 ∧ (∀ h ∈ x.hs, Hdr h) ∧ x.names ≠ [] ∧ x.names.length ≤ 100 ∧ x.names.all isT = true
abbrev postFn (x : FnPre) (d : PyData) : Prop := ∃ f : FnR, d = f.d ∧ FnD f ∧ f.name = x.f
/-- params and their types -/
def eh (ts : List PyData) : List (Nat × PyData) := ts.mapIdx fun i d => (i, d)
theorem eh_hD (ts : List PyData) : enD ts = hD (eh ts) := by
  apply List.ext_getElem?
  intro i
  simp only [enD, hD, eh, List.getElem?_mapIdx, List.getElem?_map]
  cases ts[i]? <;> rfl
theorem eh_len (ts : List PyData) : (eh ts).length = ts.length := by simp [eh]
theorem idx_out {L : List Nat} {n : Nat} (h : n ∉ L) : L.idxOf n = L.length := by
  induction L with
  | nil => rfl
  | cons a L ih =>
    have ne : (a == n) = false := beq_eq_false_iff_ne.mpr fun z => h (by rw [z]; exact List.mem_cons_self)
    rw [List.idxOf_cons, ne, List.length_cons, ← ih fun z => h (List.mem_cons_of_mem _ z)]
    rfl
theorem eh_ok {ts : List PyData} {L : List Nat} {m : Nat} (hs : ts.all isS = true) (hL : ∀ n ∈ L, ts.length ≤ n) (hm : m ≤ L.length) : HereOk L m (eh ts) := fun p hp => by
  obtain ⟨i, hi, e⟩ := List.mem_mapIdx.mp hp
  subst e
  exact ⟨all_of hs (List.getElem_mem hi), by rw [idx_out fun z => by have := hL i z; omega]; exact hm⟩
/-- the slots of _law_function behind its first lines -/
abbrev sF (y : FnPre) (x : BkIn) (dl nl sc : Addr) (near : List Nat) (a b c d e f g : Sl) : List Sl := [.v (.ref dl), .d (.tuple [y.f, .tuple y.tys, y.t]), .d (.list y.hs), .d (.list y.names), .d (.int (x.ts.length : Int)), .d (.list (webD x.ts)), .d (.list (x.heads.map PyData.list)), .u, .u, .v (.ref nl), .v (.ref sc), .d (.list (nD near)), a, b, c, d, e, f, g]
abbrev bkD (bs : List (Nat × BlkR)) : List (Key × PyData) := bs.map fun p => ((Sum.inl (p.1 : Int) : Key), p.2.d)
abbrev mkD (ms : List (Nat × List (Nat × PyData))) : List (Key × PyData) := ms.map fun p => ((Sum.inl (p.1 : Int) : Key), PyData.list (hD p.2))
/-- what the loop over the places keeps -/
structure FG where
  bs : List (Nat × BlkR)
  ms : List (Nat × List (Nat × PyData))
  m : Nat
structure FInv (x : BkIn) (order : List Nat) (i : Nat) (g : FG) : Prop where
  b1 : g.bs.map (·.1) = order.take i
  m1 : g.ms.map (·.1) = order.take i
  lo : 50 ≤ g.m + 6 * i
  hi : g.m ≤ 50
  bk : ∀ p ∈ g.bs, BlkD x.L p.2 ∧ x.labels[p.1]? = some p.2.label ∧ ∃ l, x.ts[p.1]? = some l ∧ l.map (fun t => x.labels[t]?) = p.2.tg.map some
  mk1 : ∀ p ∈ g.ms, p.2.length ≤ 6 ∧ HereOk x.L g.m p.2
theorem dvl_key {α : Type} {f : α → PyData} : ∀ {l : List (Nat × α)} {n : Nat}, n ∉ l.map (·.1) → dvl (l.map fun p => ((Sum.inl (p.1 : Int) : Key), f p.2)) (Sum.inl (n : Int)) = none
  | [], n, _ => rfl
  | p :: l, n, h => by
    rw [List.map_cons, dvl_neg (fun e => ?_)]
    · exact dvl_key fun z => h (List.mem_cons_of_mem _ z)
    · have e : (p.1 : Int) = (n : Int) := by injection e
      exact h (by rw [show n = p.1 by omega]; exact List.mem_cons_self)
theorem dvl_key2 {α : Type} {f : α → PyData} : ∀ {l : List (Nat × α)} {n : Nat}, n ∈ l.map (·.1) → ∃ a, (n, a) ∈ l ∧ dvl (l.map fun p => ((Sum.inl (p.1 : Int) : Key), f p.2)) (Sum.inl (n : Int)) = some (f a)
  | [], n, h => by cases h
  | p :: l, n, h => by
    rw [List.map_cons]
    by_cases e : p.1 = n
    · exact ⟨p.2, by rw [← e]; exact List.mem_cons_self, dvl_pos (by rw [e])⟩
    · have h' : n ∈ l.map (·.1) := by
        rcases List.mem_cons.mp h with z | z
        · exact absurd z.symm e
        · exact z
      obtain ⟨a, h1, h2⟩ := dvl_key2 (f := f) h'
      exact ⟨a, List.mem_cons_of_mem _ h1, by rw [dvl_neg (fun z => e (by have : (p.1 : Int) = (n : Int) := by injection z
                                                                          omega))]; exact h2⟩
end K53
namespace K53
open PySem PySem.Spec PyProof.Rows L2 Dl
section
variable {X : Cx} {W : Wd} {S : List Addr} {G : List (Addr × MO)} {δ : List Sl} {a b : Expr} {pos : Pos} {x : PyData}
theorem be_notinP (ha : DE X W S G δ a (fun z => z = x)) (hb : DE X W S G δ b (fun z => ∃ o, z = .list (nD o))) (hx : flat x = true) (hm : behindInMarks .NotIn b = false := by rfl) : BE X W S G δ (.Compare a [.NotIn] [b] pos) (fun _ => True) := fun σ H C Q q =>
  ET.of (pt_cmpR op_notIn_seq pee pee hm) (ha σ H C _ fun u H1 da C1 s1 e1 ra => hb σ H1 C1 _ fun w H2 db C2 s2 ⟨o, e2⟩ rb => by
    subst e1 e2
    refine rd_in (S := S) (neg := true) rfl hx (nD_flat o) H2 u w C2.trk (C1.mv s2 ra) rb _ fun v H3 d s3 e1 r3 => ?_
    subst e1
    exact ⟨_, r3, q _ H3 (C2.ext s3) ((s1.trans s2).trans s3.nil) True.intro⟩)
end
theorem lcr_filter {near : List Nat} : ∀ {n : Nat} {es : List PyData}, LcRel (fun i o => o = if decide (i ∈ near) = true then none else some (.int (i : Int))) n es → es = nD ((List.range n).filter fun i => !decide (i ∈ near))
  | 0, es, h => by
    have h : es = [] := h
    rw [h]; rfl
  | n + 1, es, h => by
    rw [List.range_succ, List.filter_append]
    rcases h with ⟨h1, h2⟩ | ⟨es', e, rfl, h1, h2⟩
    · have hm : decide (n ∈ near) = true := by
        by_cases z : decide (n ∈ near) = true
        · exact z
        · rw [if_neg z] at h1; cases h1
      rw [lcr_filter h2]
      simp [hm, nD]
    · have hm : ¬ decide (n ∈ near) = true := fun z => by rw [if_pos z] at h1; cases h1
      rw [if_neg hm] at h1
      cases h1
      rw [lcr_filter h2]
      simp at hm
      simp [hm, nD]
section
variable {P : Program} {w : World} {K : PySem.W.Frag} {mg : Str → Option Value} {base : Heap}
abbrev xF (P : Program) (w : World) (K : PySem.W.Frag) (mg : Str → Option Value) (base : Heap) (cdv : Value) (A : Around) (outer : List Env) (s : Shared) (H0 : Hp) (E : XK) : Cx := (cxOf CX0 P w K mg base ["_law_deal", "_law_header", "_law_headers", "_law_names", "_law_many", "_law_web_here", "_law_heads", "_law_turn", "_law_at", "_law_numbers", "_law_scene", "_law_near", "_law_blocks", "_law_made_here", "_law_place", "_law_here", "_law_other", "_law_ahead", "_law_order"] "_law_function" (defScope s_L_function) (He.ga K "_law_function") cdv A outer s H0 E).nox
abbrev gF (x : BkIn) (nl sc bp mp : Addr) (g : FG) : List (Addr × MO) := [(mp, .dct (mkD g.ms)), (bp, .dct (bkD g.bs)), (sc, .tp (scn x nl)), (nl, .lst (nD (x.L.take g.m)))]
theorem fn_loop (T : Txt K mg) {cdv A outer s H0 E} {y : FnPre} {x : BkIn} {W : Wd} {S0 : List Addr} {dl cl nl sc bp mp : Addr} {near : List Nat} {σ : L2.St} {H : Hp} {D : Ends} (so : SceneOk x) (hr : Room 6 (xF P w K mg base cdv A outer s H0 E).A) (hW : W.M = [dl, cl]) (hL : x.L.length = 50) (hLt : ∀ n ∈ x.L, y.tys.length ≤ n) (hty : y.tys.all isS = true) (hty3 : y.tys.length ≤ 3)
    (hnd : near.Nodup) (hnl : ∀ p ∈ near, p < x.ts.length) (hdis : ([mp, bp, sc, nl] : List Addr).Nodup) (hM4 : ∀ a ∈ [mp, bp, sc, nl], a ∉ W.M)
    (C : Dl.Ctx K W S0 (gF x nl sc bp mp ⟨[], [], 50⟩) (sF y x dl nl sc near (.v (.ref bp)) (.v (.ref mp)) .u .u .u .u .u) σ H)
    (k : ∀ g σ' H', FInv x (near ++ (List.range x.ts.length).filter fun i => !decide (i ∈ near)) (near ++ (List.range x.ts.length).filter fun i => !decide (i ∈ near)).length g → Dl.Ctx K W S0 (gF x nl sc bp mp g) (sF y x dl nl sc near (.v (.ref bp)) (.v (.ref mp)) .u .u .u .u .u) σ' H' → SS (xF P w K mg base cdv A outer s H0 E) ((defBody s_L_function).drop 8) D σ' H') :
    SS (xF P w K mg base cdv A outer s H0 E) ((defBody s_L_function).drop 7) D σ H := by
  have hu : (xF P w K mg base cdv A outer s H0 E).A.units + 1 < cLine := by have := hr.units; omega
  have r1 : Room 1 (xF P w K mg base cdv A outer s H0 E).A := hr.mono (by decide)
  have hn6 := so.six
  have hnearlen := nodup_le hnd hnl
  generalize hord : near ++ (List.range x.ts.length).filter (fun i => !decide (i ∈ near)) = order at k
  have hol : order.length ≤ 12 := by
    rw [← hord, List.length_append]
    have := List.length_filter_le (fun i => !decide (i ∈ near)) (List.range x.ts.length)
    rw [List.length_range] at this
    omega
  have honl : ∀ p ∈ order, p < x.ts.length := fun p hp => by
    rw [← hord] at hp
    rcases List.mem_append.mp hp with z | z
    · exact hnl p z
    · exact List.mem_range.mp (List.mem_filter.mp z).1
  have hond : order.Nodup := by
    rw [← hord]
    refine List.nodup_append.mpr ⟨hnd, (List.nodup_range).filter _, fun a ha b hb e => ?_⟩
    have := (List.mem_filter.mp hb).2
    rw [← e] at this
    simp [ha] at this
  have hmem4 : mp ∈ S0 ∧ bp ∈ S0 ∧ sc ∈ S0 ∧ nl ∈ S0 := ⟨(C.objs _ (by simp [gF] <;> exact .inl rfl)).2.1, (C.objs (bp, .dct (bkD [])) (by simp [gF])).2.1, (C.objs (sc, .tp (scn x nl)) (by simp [gF])).2.1, (C.objs (nl, .lst (nD (x.L.take 50))) (by simp [gF])).2.1⟩
  have hMS : ∀ a ∈ W.M, a ∈ S0 := fun a ha => (C.ms a ha).1
  simp only [List.nodup_cons, List.mem_cons, List.not_mem_nil, or_false, not_or] at hdis
  obtain ⟨⟨d1, d2, d3⟩, ⟨d4, d5⟩, d6, _⟩ := hdis
  refine ss_forP (γ := FG) (js := [14]) (fun g => gF x nl sc bp mp g) (fun _ => sF y x dl nl sc near (.v (.ref bp)) (.v (.ref mp)) .u .u .u .u .u) (fun _ i g => FInv x order i g) ⟨[], [], 50⟩ (Pds := fun ds => ds = nD order) (δt := fun _ d => sF y x dl nl sc near (.v (.ref bp)) (.v (.ref mp)) (.d d) .u .u .u .u) C
    (itp_list (NE.de ((ne_cat (Pl := fun l => l = nD near) (Pr := fun r => r = nD ((List.range x.ts.length).filter fun i => !decide (i ∈ near))) ((de_var 11 rfl).imp fun d e => ⟨nD near, e, rfl⟩) (NE.de ((ne_lcI (own := [("_law_at", 8)]) (js := [8]) (ds := rng x.ts.length) (it_range (n := x.ts.length) (de_var 4 rfl) (by omega) T.n_range) (by rw [rng_len]; omega) (by decide) (fun i o => o = if decide (i ∈ near) = true then none else some (.int (i : Int))) (fun i d DA acc hDA hd => ?_) rfl sc_L_function.nd bk_L_function_2).imp fun l rel => by rw [rng_len] at rel; exact lcr_filter rel)) (fun l r e1 e2 => by
      rw [e1, e2, nD_len, nD_len]
      have := List.length_filter_le (fun i => !decide (i ∈ near)) (List.range x.ts.length)
      rw [List.length_range] at this
      omega)).imp fun d ⟨l, r, e, e1, e2⟩ => by rw [e, e1, e2, ← hord]; simp [nD]))) (fun ds e => ⟨rfl, rfl, by show 50 ≤ 50 + 6 * 0; omega, Nat.le_refl _, (fun p hp => by cases hp), (fun p hp => by cases hp)⟩) (fun W' g d ds i _ _ => gd_name 14 sc_L_function.nd) ?_ ?_ rfl PassesOwn.never
  · obtain ⟨hi, rfl⟩ := rng_at hd
    refine ⟨(sF y x dl nl sc near (.v (.ref bp)) (.v (.ref mp)) .u .u .u .u .u).set 8 (.d (.int (i : Int))), fun k => k = !decide (i ∈ near), fun d => d = .int (i : Int), fun s H C cl fp => gd_name 8 sc_L_function.nd, fun s H C cl fp => bes_one ((be_notin rfl (de_var 8 rfl) (de_var 11 rfl) rfl (nD_flat near)).imp fun k e => by rw [e, inV_nD]), fun _ s H C cl fp => de_var 8 rfl, (fun e => ?_), fun d' e1 e => ?_⟩
    · cases q : decide (i ∈ near) with
      | true => rfl
      | false => rw [q] at e; cases e
    · cases q : decide (i ∈ near) with
      | true => rw [q] at e1; cases e1
      | false => exact congrArg some e
  · rintro W1 _ i d g σ2 H2 hW1 rfl hd iv C2
    obtain ⟨p, hp, rfl⟩ := nD_at hd
    have hpo : p ∈ order := List.mem_of_getElem? hp
    have hpl := honl p hpo
    have hio : i < order.length := (List.getElem?_eq_some_iff.mp hp).1
    have htake : order.take (i + 1) = order.take i ++ [p] := by rw [List.take_add_one, hp]; rfl
    have hpn : p ∉ order.take i := by
      intro hin
      obtain ⟨j, hj⟩ := List.mem_iff_getElem?.mp hin
      have hjl : j < (order.take i).length := (List.getElem?_eq_some_iff.mp hj).1
      rw [List.length_take] at hjl
      rw [List.getElem?_take] at hj
      rw [if_pos (by omega)] at hj
      have := ((List.getElem?_inj (by omega) hond).mp (by rw [hj, hp]) : j = i)
      omega
    have i6 : i < 6 := by
      have := nodup_le hond honl
      omega
    have hW' : W1.M = [dl, cl] := hW1.trans hW
    have b1 := iv.b1
    have m1 := iv.m1
    have ilo := iv.lo
    have ihi := iv.hi
    have hMS1 : ∀ a ∈ W1.M, a ∈ S0 := fun a ha => hMS a (by rw [← hW1]; exact ha)
    refine ss_setN 15 C2 (ne_listEnum rfl T.n_list T.n_enumerate (de_ix (da := .tuple [y.f, .tuple y.tys, y.t]) (d := .tuple y.tys) (de_var 1 rfl) de_int rfl) (by omega)) (fun hl d0 σ3 H3 hlS C3 _ e3 => ?_) sc_L_function.nd
    subst e3
    rw [eh_hD] at C3
    have hlne : hl ≠ mp ∧ hl ≠ bp ∧ hl ≠ sc ∧ hl ≠ nl := ⟨fun e => hlS (by rw [e]; exact hmem4.1), fun e => hlS (by rw [e]; exact hmem4.2.1), fun e => hlS (by rw [e]; exact hmem4.2.2.1), fun e => hlS (by rw [e]; exact hmem4.2.2.2)⟩
    have hh0 : HereOk x.L g.m (eh y.tys) := eh_ok hty hLt (by omega)
    -- the values that stand
    refine ss_forKM (γ := List (Nat × PyData)) (js := [16]) (m := mkD g.ms) (q := mp) (fun h => [(hl, .lst (hD h)), (bp, .dct (bkD g.bs)), (sc, .tp (scn x nl)), (nl, .lst (nD (x.L.take g.m)))]) (fun _ => sF y x dl nl sc near (.v (.ref bp)) (.v (.ref mp)) (.d (.int (p : Int))) (.v (.ref hl)) .u .u .u) (fun j h => h.length ≤ 3 + 6 * j ∧ HereOk x.L g.m h) 13 (eh y.tys) (δt := fun _ d => sF y x dl nl sc near (.v (.ref bp)) (.v (.ref mp)) (.d (.int (p : Int))) (.v (.ref hl)) (.d d) .u .u) (C3.perm (fun z hz => by
      simp only [gF, List.mem_cons, List.not_mem_nil, or_false] at hz ⊢
      rcases hz with e | e | e | e | e
      · exact .inr (.inl e)
      · exact .inl e
      · exact .inr (.inr (.inl e))
      · exact .inr (.inr (.inr (.inl e)))
      · exact .inr (.inr (.inr (.inr e))))) rfl (fun h z hz e => by
      simp only [List.mem_cons, List.not_mem_nil, or_false] at hz
      rcases hz with z' | z' | z' | z' <;> rw [z'] at e
      · exact hlne.1 e
      · exact d1 e.symm
      · exact d2 e.symm
      · exact d3 e.symm) ⟨by rw [eh_len]; omega, hh0⟩ (fun W' G' h d => gd_name 16 sc_L_function.nd) ?_ ?_ rfl PassesOwn.never
    · rintro W2 D' o kvs j pk h σ5 H5 hW2 hj ⟨hhl, hho⟩ C5
      obtain ⟨q, hq, rfl⟩ : ∃ q, g.ms[j]? = some q ∧ pk = ((Sum.inl (q.1 : Int) : Key), PyData.list (hD q.2)) := by
        rw [List.getElem?_map] at hj
        cases e : g.ms[j]? with
        | none => rw [e] at hj; cases hj
        | some q => rw [e] at hj; cases hj; exact ⟨q, rfl, rfl⟩
      obtain ⟨a, ha, hv⟩ := dvl_key2 (f := fun m => PyData.list (hD m)) (List.mem_map_of_mem (f := Prod.fst) (List.mem_of_getElem? hq))
      have ham := iv.mk1 _ ha
      dsimp only at ham
      have hjl : j < g.ms.length := (List.getElem?_eq_some_iff.mp hq).1
      have hmsl : g.ms.length ≤ 6 := by
        have := congrArg List.length m1
        rw [List.length_map, List.length_take] at this
        omega
      have hts0 : 0 < x.ts.length := by omega
      refine ss_if (Pt := fun _ => True) C5 (be_bw (bw_or (P1 := fun _ => True) (P2 := fun _ => True) ((be_notin rfl (de_var 14 rfl) (de_var 11 rfl) rfl (nD_flat near)).imp fun _ _ => True.intro) (fun _ => bw_or1 (be_notinP (de_var 14 rfl) (de_call (ok_reached T) r1 (da_consE (de_var 5 rfl) (da_consE (de_var 16 rfl) da_nilE)) (pre1 (x.ts, (q.1 : Int)) ⟨rfl, (by show x.ts.length ≤ 100; omega), hts0, so.web⟩ fun d ⟨o, e, _⟩ => ⟨o, e⟩)) rfl)) (fun _ => True.intro) (fun _ _ _ => True.intro))) (fun H6 C6 _ _ => ?_) (fun H6 C6 _ _ => ?_)
      · refine ss_extend 15 (ds := hD h) (Ps := fun l => l = hD a) (C6.perm (G' := (hl, .lst (hD h)) :: [(mp, .dlk o kvs (mkD g.ms)), (bp, .dct (bkD g.bs)), (sc, .tp (scn x nl)), (nl, .lst (nD (x.L.take g.m)))]) (fun z hz => by
          simp only [List.mem_cons, List.not_mem_nil, or_false] at hz ⊢
          rcases hz with e | e | e | e | e
          · exact .inr (.inl e)
          · exact .inl e
          · exact .inr (.inr (.inl e))
          · exact .inr (.inr (.inr (.inl e)))
          · exact .inr (.inr (.inr (.inr e))))) rfl (fun z hz e => by
          simp only [List.mem_cons, List.not_mem_nil, or_false] at hz
          rcases hz with z' | z' | z' | z' <;> rw [z'] at e
          · exact hlne.1 e.symm
          · exact hlne.2.1 e.symm
          · exact hlne.2.2.1 e.symm
          · exact hlne.2.2.2 e.symm) ((de_ixDM (k := Sum.inl (q.1 : Int)) hu 13 rfl (List.mem_cons_of_mem _ List.mem_cons_self) (.inr ⟨o, kvs, rfl⟩) (de_var 16 rfl) rfl hv).imp fun d e => ⟨hD a, e, rfl⟩) (fun l e => by rw [e, hD_len, hD_len]; omega) (fun l σ7 H7 C7 _ e => ?_)
        subst e
        rw [← hD_app] at C7
        refine ss_nil (ss_nil ⟨h ++ a, ⟨by rw [List.length_append]; omega, hho.app ham.2⟩, (Ctx.u (X := xF P w K mg base cdv A outer s H0 E) 16 C7).perm fun z hz => ?_⟩)
        simp only [List.mem_cons, List.not_mem_nil, or_false] at hz ⊢
        rcases hz with e | e | e | e | e
        · exact .inr (.inl e)
        · exact .inl e
        · exact .inr (.inr (.inl e))
        · exact .inr (.inr (.inr (.inl e)))
        · exact .inr (.inr (.inr (.inr e)))
      · exact ss_nil (ss_nil ⟨h, ⟨by omega, hho⟩, C6.u 16⟩)
    · rintro h σ4 H4 ⟨hhl, hho⟩ C4
      have hmsl : g.ms.length = i := by
        have := congrArg List.length m1
        rw [List.length_map, List.length_take] at this
        omega
      have hbsl : g.bs.length = i := by
        have := congrArg List.length b1
        rw [List.length_map, List.length_take] at this
        omega
      have hhl : h.length ≤ 3 + 6 * i := by
        rw [List.length_map, hmsl] at hhl
        exact hhl
      refine ss_set 17 C4 (de_len T.n_len (dr_m 15 rfl (List.mem_cons_of_mem _ List.mem_cons_self)) rfl) (fun d σ5 H5 C5 _ e5 => ?_) sc_L_function.nd
      subst e5
      have C5' := C5.perm (G' := (bp, .dct (bkD g.bs)) :: [(mp, .dct (mkD g.ms)), (hl, .lst (hD h)), (sc, .tp (scn x nl)), (nl, .lst (nD (x.L.take g.m)))]) (fun z hz => by
          simp only [List.mem_cons, List.not_mem_nil, or_false] at hz ⊢
          rcases hz with e | e | e | e | e
          · exact .inr (.inr (.inl e))
          · exact .inl e
          · exact .inr (.inl e)
          · exact .inr (.inr (.inr (.inl e)))
          · exact .inr (.inr (.inr (.inr e))))
      obtain ⟨f, fd, c1, c2, c3, c4⟩ := (ok_block (P := P) (w := w) (base := base) T).ex
      refine ss_dputV 12 (m := bkD g.bs) (k := Sum.inl (p : Int)) (W := W1) (S := hl :: S0) (δ := sF y x dl nl sc near (.v (.ref bp)) (.v (.ref mp)) (.d (.int (p : Int))) (.v (.ref hl)) .u (.d (.int ((hD h).length : Int))) .u) hu rfl (by rw [List.length_map]; omega) ?_
      refine EE.of (pe_call (dvs := []) c4 hr rfl c1 c2 c3 .nil pass0 pea (by decide) (star_cons rfl) (back_plain rfl)) ?_
      refine ea_cons (ev_v 0 C5' rfl (ea_cons ((show DE (xF P w K mg base cdv A outer s H0 E) W1 (hl :: S0) ((bp, .dct (bkD g.bs)) :: [(mp, .dct (mkD g.ms)), (hl, .lst (hD h)), (sc, .tp (scn x nl)), (nl, .lst (nD (x.L.take g.m)))]) (sF y x dl nl sc near (.v (.ref bp)) (.v (.ref mp)) (.d (.int (p : Int))) (.v (.ref hl)) .u (.d (.int ((hD h).length : Int))) .u) _ (fun z => z = .int (p : Int)) from de_var 14 rfl) σ5 H5 C5' _ fun v6 H6 d6' C6 st6 e6 r6 => ea_cons (ev_v 10 C6 rfl (ea_cons (ev_v 15 C6 rfl (ea_nil ?_)))))))
      subst e6
      have r6 : v6 = .int (p : Int) := r6
      subst r6
      show spB K (([V.ref dl, .int (p : Int), .ref sc, .ref hl] : List V) ++ []) H6 _ E0
      have mem : ∀ {z : Addr × MO}, z ∈ (bp, MO.dct (bkD g.bs)) :: [(mp, MO.dct (mkD g.ms)), (hl, MO.lst (hD h)), (sc, MO.tp (scn x nl)), (nl, MO.lst (nD (x.L.take g.m)))] → Obj1 K (hl :: S0) H6 z.1 z.2 ∧ z.1 ∈ hl :: S0 ∧ z.1 ∉ W1.M ∧ (z.1 ∈ W1.M0 ∨ W1.H0 z.1 = none) := fun {z} hz => C6.objs z hz
      have ohl := mem (z := (hl, .lst (hD h))) (by simp)
      have onl := mem (z := (nl, .lst (nD (x.L.take g.m)))) (by simp)
      have osc := mem (z := (sc, .tp (scn x nl))) (by simp)
      have obp := mem (z := (bp, .dct (bkD g.bs))) (by simp)
      have omp := mem (z := (mp, .dct (mkD g.ms))) (by simp)
      have hdm : dl ∈ W1.M := by rw [hW']; simp
      have hcm : cl ∈ W1.M := by rw [hW']; simp
      refine ⟨x, hl :: S0, dl, cl, sc, hl, nl, p, g.m, h, rfl, C6.trk, (C6.ms dl hdm).1, (C6.ms cl hcm).1, Ctx.dealW (X := xF P w K mg base cdv A outer s H0 E) C6 hW', ohl.2.1, onl.2.1, hlne.2.2.2, by rw [← hW']; exact ohl.2.2.1, by rw [← hW']; exact onl.2.2.1, osc.1, ohl.1, onl.1, so, hpl, hho, by omega, by omega, by omega, fun v H7 d mk m' st7 D7 oh on a1 a2 a3 a4 ⟨b, eb, hb1, hb2, hb3⟩ rv => ?_⟩
      subst eb
      have hMS7 : ∀ a ∈ [dl, cl, hl, nl], a ∈ hl :: S0 := fun a ha => by
        simp only [List.mem_cons, List.not_mem_nil, or_false] at ha
        rcases ha with rfl | rfl | rfl | rfl
        · exact (C6.ms _ hdm).1
        · exact (C6.ms _ hcm).1
        · exact ohl.2.1
        · exact onl.2.1
      have stay : ∀ {a : Addr}, a ∉ W1.M → a ≠ hl → a ≠ nl → ∀ o, H6 a = some o → H7 a = some o := fun {a} n1 n2 n3 o e => st7 a o e fun z => by
        simp only [List.mem_cons, List.not_mem_nil, or_false] at z
        rcases z with rfl | rfl | rfl | rfl
        · exact n1 hdm
        · exact n1 hcm
        · exact n2 rfl
        · exact n3 rfl
      have mv7 : Mv (hl :: S0) (hl :: S0) H6 H7 := st7.mv hMS7
      have C7 : Dl.Ctx K W1 (hl :: S0) ((bp, .dct (bkD g.bs)) :: [(mp, .dct (mkD g.ms)), (hl, .lst (hD (h ++ mk))), (sc, .tp (scn x nl)), (nl, .lst (nD (x.L.take m')))]) (sF y x dl nl sc near (.v (.ref bp)) (.v (.ref mp)) (.d (.int (p : Int))) (.v (.ref hl)) .u (.d (.int ((hD h).length : Int))) .u) σ5 H7 := by
        refine Dl.Ctx.many C6 st7 hMS7 (fun a ha => ?_) (fun a ha => ?_) (fun dl' cl' e => ?_) (fun z hz => ?_)
        · simp only [List.mem_cons, List.not_mem_nil, or_false] at ha
          rcases ha with rfl | rfl | rfl | rfl
          · exact .inl (C6.ms _ hdm).2
          · exact .inl (C6.ms _ hcm).2
          · exact ohl.2.2.2
          · exact onl.2.2.2
        · obtain ⟨_, cs, b0, q1, q2, _⟩ := D7
          obtain ⟨xs1, q3, _⟩ := oh
          obtain ⟨xs2, q4, _⟩ := on
          simp only [List.mem_cons, List.not_mem_nil, or_false] at ha
          rcases ha with rfl | rfl | rfl | rfl
          · rw [q1]; simp
          · rw [q2]; simp
          · rw [q3]; simp
          · rw [q4]; simp
        · rw [hW'] at e
          cases e
          exact D7
        · simp only [List.mem_cons, List.not_mem_nil, or_false] at hz
          rcases hz with rfl | rfl | rfl | rfl | rfl
          · exact ⟨obp.1.mv mv7 (stay obp.2.2.1 (fun e => hlne.2.1 e.symm) d5), _, List.mem_cons_self⟩
          · exact ⟨omp.1.mv mv7 (stay omp.2.2.1 (fun e => hlne.1 e.symm) d3), .dct (mkD g.ms), by simp⟩
          · exact ⟨oh, .lst (hD h), by simp⟩
          · exact ⟨osc.1.mv mv7 (stay osc.2.2.1 (fun e => hlne.2.2.1 e.symm) d6), .tp (scn x nl), by simp⟩
          · exact ⟨on, .lst (nD (x.L.take g.m)), by simp⟩
      refine ⟨b.d, [(mp, .dct (mkD g.ms)), (hl, .lst (hD (h ++ mk))), (sc, .tp (scn x nl)), (nl, .lst (nD (x.L.take m')))], (fun z hz e => by
        simp only [List.mem_cons, List.not_mem_nil, or_false] at hz
        rcases hz with z' | z' | z' | z' <;> rw [z'] at e
        · exact d1 e
        · exact hlne.2.1 e
        · exact d4 e.symm
        · exact d5 e.symm), C7, rv, (show DE (xF P w K mg base cdv A outer s H0 E) W1 (hl :: S0) _ _ _ (fun z => z = .int (p : Int)) from de_var 14 rfl), fun H8 C8 => ?_⟩
      have eb : dpt (bkD g.bs) (Sum.inl (p : Int)) b.d = bkD (g.bs ++ [(p, b)]) := by
        rw [dpt_new _ (dvl_key (f := BlkR.d) (by rw [b1]; exact hpn))]
        simp [bkD]
      rw [eb] at C8
      refine ss_dput 13 (m := mkD g.ms) (k := Sum.inl (p : Int)) (G := [(bp, .dct (bkD (g.bs ++ [(p, b)]))), (hl, .lst (hD (h ++ mk))), (sc, .tp (scn x nl)), (nl, .lst (nD (x.L.take m')))]) hu (C8.perm (fun z hz => by
          simp only [List.mem_cons, List.not_mem_nil, or_false] at hz ⊢
          rcases hz with e | e | e | e | e
          · exact .inr (.inl e)
          · exact .inl e
          · exact .inr (.inr (.inl e))
          · exact .inr (.inr (.inr (.inl e)))
          · exact .inr (.inr (.inr (.inr e))))) rfl (by rw [List.length_map]; omega) (fun z hz e => by
          simp only [List.mem_cons, List.not_mem_nil, or_false] at hz
          rcases hz with z' | z' | z' | z' <;> rw [z'] at e
          · exact d1 e.symm
          · exact hlne.1 e
          · exact d2 e.symm
          · exact d3 e.symm) (NE.de (ne_fromM 15 rfl (List.mem_cons_of_mem _ (List.mem_cons_of_mem _ List.mem_cons_self)) (de_var 17 rfl))) (show DE (xF P w K mg base cdv A outer s H0 E) W1 (hl :: S0) _ _ _ (fun z => z = .int (p : Int)) from de_var 14 rfl) (fun d σ9 H9 C9 _ ⟨l, e9, el⟩ => ?_)
      subst e9
      rw [hD_app, List.drop_left] at el
      subst el
      have em : dpt (mkD g.ms) (Sum.inl (p : Int)) (.list (hD mk)) = mkD (g.ms ++ [(p, mk)]) := by
        rw [dpt_new _ (dvl_key (f := fun m => PyData.list (hD m)) (by rw [m1]; exact hpn))]
        simp [mkD]
      rw [em] at C9
      have CU := Ctx.u (X := xF P w K mg base cdv A outer s H0 E) 17 (Ctx.u (X := xF P w K mg base cdv A outer s H0 E) 15 (Ctx.u (X := xF P w K mg base cdv A outer s H0 E) 14 C9))
      have CP := CU.perm (G' := (hl, .lst (hD (h ++ mk))) :: gF x nl sc bp mp ⟨g.bs ++ [(p, b)], g.ms ++ [(p, mk)], m'⟩) (fun z hz => by
          simp only [gF, List.mem_cons, List.not_mem_nil, or_false] at hz ⊢
          rcases hz with e | e | e | e | e
          · exact .inr (.inr (.inl e))
          · exact .inl e
          · exact .inr (.inl e)
          · exact .inr (.inr (.inr (.inl e)))
          · exact .inr (.inr (.inr (.inr e))))
      have CD := CP.drop hlS (fun z hz => by
          simp only [gF, List.mem_cons, List.not_mem_nil, or_false] at hz
          rcases hz with e | e | e | e <;> rw [e]
          · exact hmem4.1
          · exact hmem4.2.1
          · exact hmem4.2.2.1
          · exact hmem4.2.2.2) hMS1
      refine ss_nil ⟨⟨g.bs ++ [(p, b)], g.ms ++ [(p, mk)], m'⟩, ⟨?_, ?_, ?_, ?_, fun z hz => ?_, fun z hz => ?_⟩, CD⟩
      · rw [List.map_append, b1, htake]; rfl
      · rw [List.map_append, m1, htake]; rfl
      · show 50 ≤ m' + 6 * (i + 1); omega
      · show m' ≤ 50; omega
      · rcases List.mem_append.mp hz with z' | z'
        · exact iv.bk z z'
        · rw [List.mem_singleton.mp z']
          exact ⟨hb1, hb2, hb3⟩
      · rcases List.mem_append.mp hz with z' | z'
        · exact ⟨(iv.mk1 z z').1, (iv.mk1 z z').2.mono (by show m' ≤ g.m; omega)⟩
        · rw [List.mem_singleton.mp z']
          exact ⟨a3, a4⟩
  · rintro _ g σ2 H2 rfl iv C2
    rw [nD_len] at iv
    exact k g σ2 H2 iv C2
end
end K53
/-! text A18 -/
set_option Elab.async false
set_option linter.all false
set_option maxRecDepth 100000
set_option maxHeartbeats 4000000
namespace K53
open PySem PySem.Spec PyProof.Rows L2 Dl
local macro_rules | `(tactic| walk_at "fl") => `(tactic| first | rfl | assumption | (simp only [*]; done) | decide)
theorem pick_list {bs : List (Nat × BlkR)} : ∀ {es : List PyData} {od : List Nat}, es.length = od.length → (∀ (i : Nat) (e : PyData), es[i]? = some e → ∃ (q : Nat) (b : BlkR), od[i]? = some q ∧ (q, b) ∈ bs ∧ e = b.d) → ∃ bl : List BlkR, es = bl.map BlkR.d ∧ bl.length = od.length ∧ ∀ (i : Nat) (b : BlkR), bl[i]? = some b → ∃ q, od[i]? = some q ∧ (q, b) ∈ bs
  | [], od, hl, _ => ⟨[], rfl, hl, fun i b h => by simp at h⟩
  | e :: es, [], hl, _ => by simp at hl
  | e :: es, q :: od, hl, h => by
    obtain ⟨q', b, h1, h2, h3⟩ := h 0 e rfl
    obtain ⟨bl, h4, h5, h6⟩ := pick_list (es := es) (od := od) (by simpa using hl) fun i e' he => by
      obtain ⟨q2, b2, g1, g2, g3⟩ := h (i + 1) e' (by simpa using he)
      exact ⟨q2, b2, by simpa using g1, g2, g3⟩
    refine ⟨b :: bl, by rw [h3, h4]; rfl, by simp [h5], fun i b' hb => ?_⟩
    cases i with
    | zero =>
      have hb : b = b' := by simpa using hb
      subst hb
      exact ⟨q', h1, h2⟩
    | succ i =>
      obtain ⟨q2, g1, g2⟩ := h6 i b' (by simpa using hb)
      exact ⟨q2, by simpa using g1, g2⟩
theorem mk_fn {y : FnPre} {x : BkIn} {order od : List Nat} {g : FG} {bl : List BlkR} (so : SceneOk x) (hln : x.labels.Nodup) (hn : isT y.f = true) (hL50 : x.L.length = 50) (hts : 0 < x.ts.length) (iv : FInv x order order.length g) (hod : od.Nodup) (hol : od.length = x.ts.length) (hom : ∀ p, p ∈ od ↔ p < x.ts.length) (hl : bl.length = od.length) (h : ∀ (i : Nat) (b : BlkR), bl[i]? = some b → ∃ q, od[i]? = some q ∧ (q, b) ∈ g.bs) : FnD ⟨y.f, y.tys, y.t, bl, x.L⟩ := by
  have lab : ∀ (i : Nat) (b : BlkR), bl[i]? = some b → ∃ q, od[i]? = some q ∧ x.labels[q]? = some b.label := fun i b hb => by
    obtain ⟨q, h1, h2⟩ := h i b hb
    exact ⟨q, h1, (iv.bk _ h2).2.1⟩
  refine ⟨fun b hb => ?_, ?_, fun b hb t ht => ?_, ?_, ?_, hn, hL50⟩
  · obtain ⟨i, hi⟩ := List.mem_iff_getElem?.mp hb
    obtain ⟨q, _, h2⟩ := h i b hi
    exact (iv.bk _ h2).1
  · rw [List.nodup_iff_pairwise_ne, List.pairwise_iff_getElem]
    intro i j hi hj hij e
    have hi' : i < bl.length := by simpa using hi
    have hj' : j < bl.length := by simpa using hj
    rw [List.getElem_map, List.getElem_map] at e
    have e : bl[i].label = bl[j].label := e
    obtain ⟨q1, a1, a2⟩ := lab i _ (List.getElem?_eq_getElem hi')
    obtain ⟨q2, b1, b2⟩ := lab j _ (List.getElem?_eq_getElem hj')
    rw [e] at a2
    have hq1 : q1 < x.labels.length := (List.getElem?_eq_some_iff.mp a2).1
    have eq := (List.getElem?_inj hq1 hln).mp (a2.trans b2.symm)
    subst eq
    have hi2 : i < od.length := by omega
    have := (List.getElem?_inj hi2 hod).mp (a1.trans b1.symm)
    omega
  · obtain ⟨i, hi⟩ := List.mem_iff_getElem?.mp hb
    obtain ⟨q, _, h2⟩ := h i b hi
    obtain ⟨_, _, l, h3, h4⟩ := iv.bk _ h2
    dsimp only at h3 h4
    have hm : some t ∈ b.tg.map some := List.mem_map_of_mem ht
    rw [← h4] at hm
    obtain ⟨u, hu, e⟩ := List.mem_map.mp hm
    have hul := (so.web.2 l (List.mem_of_getElem? h3)).2 u hu
    have huo : u ∈ od := (hom u).mpr hul
    obtain ⟨j, hj⟩ := List.mem_iff_getElem?.mp huo
    have hjl : j < od.length := (List.getElem?_eq_some_iff.mp hj).1
    have hjb : j < bl.length := by omega
    obtain ⟨q2, a1, a2⟩ := lab j _ (List.getElem?_eq_getElem hjb)
    rw [hj] at a1
    cases a1
    rw [a2] at e
    cases e
    exact List.mem_map_of_mem (List.getElem_mem hjb)
  · intro z
    have z : bl = [] := z
    rw [z] at hl
    simp at hl
    omega
  · show bl.length ≤ 6
    have := so.six
    omega
section
variable {P : Program} {w : World} {K : PySem.W.Frag} {mg : Str → Option Value} {base : Heap}
theorem fn_end (T : Txt K mg) {cdv A outer s H0 E} {y : FnPre} {x : BkIn} {W : Wd} {S0 : List Addr} {dl cl nl sc bp mp : Addr} {near order : List Nat} {g : FG} {σ : L2.St} {H : Hp} {D : Ends} (so : SceneOk x) (hln : x.labels.Nodup) (hn : isT y.f = true) (hL50 : x.L.length = 50) (hts : 0 < x.ts.length) (hr : Room 6 (xF P w K mg base cdv A outer s H0 E).A) (hW : W.M = [dl, cl])
    (hord : order = near ++ (List.range x.ts.length).filter fun i => !decide (i ∈ near)) (hnd : near.Nodup) (hnl : ∀ p ∈ near, p < x.ts.length) (iv : FInv x order order.length g)
    (C : Dl.Ctx K W S0 (gF x nl sc bp mp g) (sF y x dl nl sc near (.v (.ref bp)) (.v (.ref mp)) .u .u .u .u .u) σ H)
    (k : ∀ v H' d, (∃ f : FnR, d = f.d ∧ FnD f ∧ f.name = y.f) → (∃ G δ σ', Dl.Ctx K W S0 G δ σ' H') → Rp K S0 H' d v → D.rt v H') :
    SS (xF P w K mg base cdv A outer s H0 E) ((defBody s_L_function).drop 8) D σ H := by
  have hu : (xF P w K mg base cdv A outer s H0 E).A.units + 1 < cLine := by have := hr.units; omega
  have r2 : Room 2 (xF P w K mg base cdv A outer s H0 E).A := hr.mono (by decide)
  have six := so.six
  have hmem : ∀ p, p < x.ts.length → p ∈ order := fun p hp => by
    rw [hord]
    by_cases z : p ∈ near
    · exact List.mem_append_left _ z
    · exact List.mem_append_right _ (List.mem_filter.mpr ⟨List.mem_range.mpr hp, by simp [z]⟩)
  have b1 := iv.b1
  rw [List.take_length] at b1
  refine ss_set 18 C (P := fun d => ∃ l' : List Nat, d = .list (nD (0 :: l')) ∧ l'.Perm ((List.range (x.ts.length - 1)).map fun j => 1 + j)) (NE.de (ne_cat (Pl := fun l => l = [.int 0]) (Pr := fun r => ∃ l' : List Nat, r = nD l' ∧ l'.Perm ((List.range (x.ts.length - 1)).map fun j => 1 + j)) (DE.imp (de_lit (d := .list [.int 0])) fun d e => ⟨_, e, rfl⟩) (NE.de (ne_callM 0 hW rfl (ok_mixed T) r2 (da_consE ((NE.de (ne_listRg2 (i := 1) (n := x.ts.length - 1) rfl T.n_list T.n_range de_int ((de_var 4 rfl).imp fun d e => by rw [e]; congr 1; omega) (by decide) (by decide) (by omega))).imp fun d ⟨l, e, el⟩ => (by rw [e, el] : d = .list _)) da_nilE) (fun ds e => ⟨(List.range (x.ts.length - 1)).map fun j => 1 + j, ⟨by rw [e, nD, List.map_map]; congr 2, by simp; omega⟩, fun d p => p⟩))) (fun l r e ⟨l', e2, hp⟩ => by
      rw [e, e2, nD_len, hp.length_eq]; simp; omega)) |>.imp fun d ⟨l, e, l1, l2, e1, e2, l', e3, hp⟩ => ⟨l', by rw [e, e1, e2, e3]; rfl, hp⟩) (fun d σ1 H1 C1 _ ⟨l', e, hp⟩ => ?_) sc_L_function.nd
  subst e
  have hmo : ∀ p, p ∈ (0 :: l' : List Nat) ↔ p < x.ts.length := fun p => by
    rw [List.mem_cons, hp.mem_iff]
    constructor
    · rintro (z | z)
      · omega
      · obtain ⟨j, hj, e⟩ := List.mem_map.mp z
        have := List.mem_range.mp hj
        omega
    · intro z
      by_cases z0 : p = 0
      · exact .inl z0
      · exact .inr (List.mem_map.mpr ⟨p - 1, List.mem_range.mpr (by omega), by omega⟩)
  have hno : (0 :: l' : List Nat).Nodup := by
    refine List.nodup_cons.mpr ⟨fun z => ?_, hp.nodup_iff.mpr ?_⟩
    · obtain ⟨j, _, e⟩ := List.mem_map.mp (hp.mem_iff.mp z)
      omega
    · rw [List.nodup_iff_pairwise_ne, List.pairwise_map]
      exact (List.nodup_iff_pairwise_ne.mp List.nodup_range).imp fun h e => h (by omega)
  have hlo : (0 :: l' : List Nat).length = x.ts.length := by
    rw [List.length_cons, hp.length_eq]; simp; omega
  generalize hod : (0 :: l' : List Nat) = od at *
  refine ss_ret (v' := D.rt) C1 (P := fun d => ∃ bl : List BlkR, d = FnR.d ⟨y.f, y.tys, y.t, bl, x.L⟩ ∧ bl.length = od.length ∧ ∀ (i : Nat) (b : BlkR), bl[i]? = some b → ∃ q, od[i]? = some q ∧ (q, b) ∈ g.bs) ?_ (fun v H' d C2 _ ⟨bl, e, h1, h2⟩ rv => k v H' d ⟨_, e, mk_fn so hln hn hL50 hts iv hno hlo hmo h1 h2, rfl⟩ ⟨_, _, _, C2⟩ rv)
  refine (de_tupP (Ps := fun ds => ∃ bl : List BlkR, ds = [y.f, .tuple y.tys, y.t, .tuple (bl.map BlkR.d)] ∧ bl.length = od.length ∧ ∀ (i : Nat) (b : BlkR), bl[i]? = some b → ∃ q, od[i]? = some q ∧ (q, b) ∈ g.bs) ((da_cons (de_ix (da := .tuple [y.f, .tuple y.tys, y.t]) (de_var 1 rfl) de_int rfl) (da_cons (de_ix (da := .tuple [y.f, .tuple y.tys, y.t]) (de_var 1 rfl) de_int rfl) (da_cons (de_ix (da := .tuple [y.f, .tuple y.tys, y.t]) (de_var 1 rfl) de_int rfl) (da_cons (de_tupleOf (Ps := fun es => ∃ bl : List BlkR, es = bl.map BlkR.d ∧ bl.length = od.length ∧ ∀ (i : Nat) (b : BlkR), bl[i]? = some b → ∃ q, od[i]? = some q ∧ (q, b) ∈ g.bs) T.n_tuple ((NE.de ((ne_lcI (own := [("_law_place", 14)]) (js := [14]) (ds := nD od) (it_data (y := .list (nD od)) (de_var 18 rfl) rfl) (by rw [nD_len]; omega) (by decide) (fun i o => ∃ q b, od[i]? = some q ∧ (q, b) ∈ g.bs ∧ o = some b.d) (fun i d DA acc hDA hd => ?_) rfl sc_L_function.nd bk_L_function_3).imp fun l rel => ?_)).imp fun d ⟨l, e, p⟩ => ⟨l, by rw [e]; rfl, p⟩)) da_nilE)))).imp ?_) ?_).imp ?_
  · obtain ⟨q, hq, rfl⟩ := nD_at hd
    have hqo : q ∈ g.bs.map (·.1) := by
      rw [b1]
      exact hmem q ((hmo q).mp (List.mem_of_getElem? hq))
    obtain ⟨b, hb1, hb2⟩ := dvl_key2 (f := BlkR.d) hqo
    refine ⟨(sF y x dl nl sc near (.v (.ref bp)) (.v (.ref mp)) (.d (.int (q : Int))) .u .u .u (.d (.list (nD od)))), fun k => k = true, fun d => d = b.d, fun s H C cl fp => gd_name 14 sc_L_function.nd, fun s H C cl fp => bes_nil, fun _ s2 H2 C2 cl2 fp2 => ?_, (fun z => by cases z), fun d' _ e => ⟨q, b, hq, hb1, by rw [e]⟩⟩
    exact de_ixDM (X := blkX (xF P w K mg base cdv A outer s H0 E) _ s2 H2 C2 cl2 fp2) (k := Sum.inl (q : Int)) (m := bkD g.bs) hu 12 rfl (List.mem_cons_of_mem _ (List.mem_cons_of_mem _ List.mem_cons_self)) (.inl rfl) (de_var 14 rfl) rfl hb2
  · have al := rel.all (fun i ⟨_, _, _, _, z⟩ => by cases z)
    refine pick_list (by rw [al.1, nD_len]) fun i e he => ?_
    obtain ⟨q, b, h1, h2, h3⟩ := al.2 i e he
    cases h3
    exact ⟨q, b, h1, h2, rfl⟩
  · rintro _ ⟨_, _, rfl, rfl, _, _, rfl, rfl, _, _, rfl, rfl, _, _, rfl, ⟨_, rfl, bl, rfl, h1, h2⟩, rfl⟩
    exact ⟨bl, rfl, h1, h2⟩
  · rintro _ ⟨bl, rfl, _⟩
    simp only [List.length_cons, List.length_nil]; decide
  · rintro _ ⟨_, rfl, bl, rfl, h1, h2⟩
    exact ⟨bl, rfl, h1, h2⟩
end
end K53
/-! text A19 -/
set_option Elab.async false
set_option linter.all false
set_option maxRecDepth 100000
set_option maxHeartbeats 4000000
namespace K53
open PySem PySem.Spec PyProof.Rows L2 Dl
local macro_rules | `(tactic| walk_at "fl") => `(tactic| first | rfl | assumption | (simp only [*]; done) | decide)
theorem ss_parDDt {X : Cx} {W : Wd} {S : List Addr} {G : List (Addr × MO)} {δ : List Sl} {σ : L2.St} {H : Hp} {a b : Expr} {D : Ends} {r : List Stmt} (i j : Nat) {x y : Str} {px py pt pos : Pos} {kt k2 : Nat} {pt2 : Pos} {Pq Pm : List (Key × PyData) → Prop} (C : Dl.Ctx X.K W S G δ σ H) (hc : X.calm = true) (ha : ND X W S G δ a Pq) (hb : ∀ q l, ND X W (q :: S) ((q, .dct l) :: G) δ b Pm)
    (k : ∀ p q da db σ' H', p ∉ S → q ∉ p :: S → Dl.Ctx X.K W (q :: p :: S) ((q, .dct db) :: (p, .dct da) :: G) ((δ.set i (.v (.ref p))).set j (.v (.ref q))) σ' H' → Pq da → Pm db → SS X r D σ' H') (hN : X.N.Nodup)
    (hi : X.N[i]? = some x := by rfl) (hj : X.N[j]? = some y := by rfl) (hx : Loc X.env.scope x := by first | exact Or.inl rfl | exact Or.inr rfl) (hy : Loc X.env.scope y := by first | exact Or.inl rfl | exact Or.inr rfl) (hfx : X.fn x = true ∨ X.env.scope.names.lookup x = some .local := by first | exact .inl rfl | exact .inr rfl) (hfy : X.fn y = true ∨ X.env.scope.names.lookup y = some .local := by first | exact .inl rfl | exact .inr rfl)
    (hs : swapsWithSole [.Tuple [.Name x px, .Name y py] kt pt] (.Tuple [a, b] k2 pt2) pos.line X.env = pure false := by rfl) (hw : swappedStores [.Tuple [.Name x px, .Name y py] kt pt] (.Tuple [a, b] k2 pt2) X.env = pure none := by rfl) (h1 : (assignEach [.Tuple [.Name x px, .Name y py] kt pt] X.env).map (·.2) = [assign (.Tuple [.Name x px, .Name y py] kt pt) X.env] := by rfl)
    (hn : (assignEach [.Name x px, .Name y py] X.env).length = [Expr.Name x px, Expr.Name y py].length := by rfl) (hst : (assignEach [.Name x px, .Name y py] X.env).findIdx? (·.1) = none := by rfl) (h2 : (assignEach [.Name x px, .Name y py] X.env).map (·.2) = assign (.Name x px) X.env :: (assignEach [.Name y py] X.env).map (·.2) := by rfl) (h3 : (assignEach [.Name y py] X.env).map (·.2) = assign (.Name y py) X.env :: (assignEach [] X.env).map (·.2) := by rfl) (hsa : nStar a = true := by rfl) (hsb : nStar b = true := by rfl) :
    SS X (.Assign [.Tuple [.Name x px, .Name y py] kt pt] (.Tuple [a, b] k2 pt2) pos :: r) D σ H := by
  refine ss_cons (S1.of (ps_asg pee pge hs hw h1) (ev_tup (ea_cons (ha σ H C _ fun p H1 da xs C1 s1 hq1 hl1 pa ra => ?_) (star_cons hsa))))
  have CA := C.adopt (x := .dct da) C1 s1 hq1 ⟨xs, hl1, ra⟩
  refine ea_cons (hb p da σ H1 CA _ fun q H2 db ys C2 s2 hq hl pb rb => ea_nil ⟨Nat.le_of_lt (small1000 (by show 2 ≤ 1000; decide)), fun t ht => ?_⟩) (star_cons hsb)
  have CB := CA.adopt (x := .dct db) C2 s2 hq ⟨ys, hl, rb⟩
  have st : Stp [] H2 (upd H2 t (.tup [.ref p, .ref q])) := Stp.new ht
  have CT := CB.ext st
  exact EG.of (pg_tup hc pges hn hst) ⟨t, [.ref p, .ref q], rfl, .inl (.inl upd_same), rfl, egs_name i (egs_name j (egs_nil (k p q da db _ _ (C.trk.out hq1) (CA.trk.out hq) ((CT.set i (o := some (.ref p)) (s := .v (.ref p)) rfl).set j (o := some (.ref q)) (s := .v (.ref q)) rfl) pa pb)) hN hj hy hfy h3) hN hi hx hfx h2⟩
theorem lists_of {n : Nat} : ∀ {es : List PyData}, (∀ e ∈ es, ∃ l : List PyData, e = .list l ∧ l.length ≤ 2 ∧ ∀ t ∈ l, isS t = true) → ∃ hs : List (List PyData), es = hs.map PyData.list ∧ ∀ h ∈ hs, h.length ≤ 2 ∧ ∀ t ∈ h, isS t = true
  | [], _ => ⟨[], rfl, by simp⟩
  | e :: es, h => by
    obtain ⟨l, e1, h1, h2⟩ := h e List.mem_cons_self
    obtain ⟨hs, e2, h3⟩ := lists_of (n := n) fun x hx => h x (List.mem_cons_of_mem _ hx)
    refine ⟨l :: hs, by rw [e1, e2]; rfl, fun z hz => ?_⟩
    rcases List.mem_cons.mp hz with e | e
    · rw [e]; exact ⟨h1, h2⟩
    · exact h3 z e
section
variable {P : Program} {w : World} {K : PySem.W.Frag} {mg : Str → Option Value} {base : Heap}
theorem ok_function (T : Txt K mg) : DefOk P w K mg base 7 "_law_function" ["_law_deal", "_law_header", "_law_headers", "_law_names"] (spM K preFn postFn) := by
  refine def_M T.F_L_function T.g_L_function b_L_function sc_L_function (by rintro n _ ⟨rfl, _⟩; rfl) ?_
  rintro X ⟨cdv, A, outer, s, H0, E, hr, rfl⟩ y S0 H dl cl ds σ Q C ⟨rfl, hf, hty, hty3, ht, hs0, hs1, hs2, hn0, hn1, hn2⟩ hQ
  show SS (xF P w K mg base cdv A outer s H0 E) (defBody s_L_function) { nx := fun _ H' => Q .non H', rt := Q } σ H
  have hrx : Room 6 (xF P w K mg base cdv A outer s H0 E).A := hr
  have r1 : Room 1 (A.deeper (envOfC "_law_function" (defScope s_L_function) s.heap.objs.size (He.ga K "_law_function") cdv)) := hr.mono (by decide)
  have r2 : Room 2 (A.deeper (envOfC "_law_function" (defScope s_L_function) s.heap.objs.size (He.ga K "_law_function") cdv)) := hr.mono (by decide)
  have r3 : Room 3 (A.deeper (envOfC "_law_function" (defScope s_L_function) s.heap.objs.size (He.ga K "_law_function") cdv)) := hr.mono (by decide)
  refine ss_set 4 (X := xF P w K mg base cdv A outer s H0 E) C (de_opN0 (pr := fun i => 1 ≤ i ∧ i ≤ 6) op_add (de_I de_int) (de_any (ok_any T) r1 rfl rfl de_int) fun i j h1 h2 => by omega) (fun d σ1 H1 C1 _ ⟨i, e, h1, h2⟩ => ?_) sc_L_function.nd
  subst e
  obtain ⟨n, rfl⟩ := Int.eq_ofNat_of_zero_le (show 0 ≤ i by omega)
  have h1 : 1 ≤ n := by omega
  have h2 : n ≤ 6 := by omega
  refine ss_set 5 C1 (P := fun d => ∃ ts, d = .list (webD ts) ∧ Web n ts) (de_callM 0 rfl rfl (ok_web T) r3 (da_consE (de_var 4 rfl) da_nilE) (pre1 n ⟨rfl, by omega⟩ fun d p => p)) (fun d σ2 H2 C2 _ ⟨ts, e, hweb⟩ => ?_) sc_L_function.nd
  subst e
  have htl : ts.length = n := hweb.1
  subst htl
  refine ss_setLcI 6 (own := [("_law_at", 8)]) (js := [8]) (ds := rng ts.length) C2 (it_range (n := ts.length) (de_var 4 rfl) (by omega) T.n_range) (by rw [rng_len]; omega) (by decide) (fun i o => ∃ l : List PyData, o = some (.list l) ∧ l.length ≤ 2 ∧ ∀ t ∈ l, isS t = true) (fun i d DA acc hDA hd => ?_) (fun es σ3 H3 C3 _ rel => ?_) rfl sc_L_function.nd bk_L_function_0 rfl
  · obtain ⟨hi, rfl⟩ := rng_at hd
    refine ⟨[.v (.ref dl), .d (.tuple [y.f, .tuple y.tys, y.t]), .d (.list y.hs), .d (.list y.names), .d (.int (ts.length : Int)), .d (.list (webD ts)), .u, .u, .d (.int (i : Int)), .u, .u, .u, .u, .u, .u, .u, .u, .u, .u], fun k => k = true, fun d => ∃ l : List PyData, d = .list l ∧ l.length ≤ 2 ∧ ∀ t ∈ l, isS t = true, fun s H C cl fp => gd_name 8 sc_L_function.nd, fun s H C cl fp => bes_nil, fun _ s2 H2 Ca cl2 fp2 => ?_, (fun z => by cases z), fun d' _ ⟨l, e, p⟩ => ⟨l, by rw [e], p⟩⟩
    refine de_if (be_eq (de_var 8 rfl) de_int (by walk_at "fl")) (fun _ => ne_nil.de.imp fun d ⟨l, e, e2⟩ => ⟨[], by rw [e, e2], by simp, by simp⟩) (fun _ => ?_)
    refine NE.de (Ps := fun l => l.length ≤ 2 ∧ ∀ t ∈ l, isS t = true) ?_
    refine NE.imp (Ps := fun es => ∃ ds, (∃ k, ds = rng k ∧ k ≤ 2) ∧ LcRel (fun _ o => ∃ e, o = some e ∧ isS e = true) ds.length es) ?_ (fun l ⟨ds, ⟨k, e, hk⟩, rel⟩ => ?_)
    · refine ne_lcP (own := [("_law_turn", 7)]) (js := [7]) (Pds := fun ds => ∃ k, ds = rng k ∧ k ≤ 2) (itp_range (Pn := fun k => k ≤ 2) (DE.imp (de_any (n := 3) (ok_any T) r1 rfl rfl de_int) fun d ⟨i, e, g1, g2⟩ => ⟨i.toNat, by rw [e, Int.toNat_of_nonneg g1], by omega, by omega⟩) T.n_range) (fun ds ⟨k, e, hk⟩ => by rw [e, rng_len]; omega) (by decide) (fun _ _ o => ∃ e, o = some e ∧ isS e = true) (fun ds i2 d DA2 acc2 _ hDA2 hd2 => ?_) rfl sc_L_function.nd (BlkOk.inner bk_L_function_1 (by decide +kernel))
      refine ⟨[.v (.ref dl), .d (.tuple [y.f, .tuple y.tys, y.t]), .d (.list y.hs), .d (.list y.names), .d (.int (ts.length : Int)), .d (.list (webD ts)), .u, .d d, .d (.int (i : Int)), .u, .u, .u, .u, .u, .u, .u, .u, .u, .u], fun k => k = true, fun d => isS d = true, fun s H C cl fp => gd_name 7 sc_L_function.nd, fun s H C cl fp => bes_nil, fun _ s3 H3 Cb cl3 fp3 => ?_, (fun z => by cases z), fun d' _ e => ⟨d', rfl, e⟩⟩
      exact DE.imp (de_of (ok_of T) r2 rfl rfl de_lit) fun d hd => all_of (by decide) hd
    · have al := rel.all (fun i ⟨_, z, _⟩ => by cases z)
      rw [e, rng_len] at al
      exact ⟨by omega, fun t ht => by
        obtain ⟨i3, hi3⟩ := List.mem_iff_getElem?.mp ht
        obtain ⟨z, z1, z2⟩ := al.2 i3 t hi3
        cases z1
        exact z2⟩
  have al := rel.all (fun i ⟨_, z, _⟩ => by cases z)
  rw [rng_len] at al
  obtain ⟨heads, rfl, hheads⟩ := lists_of (n := 0) (es := es) fun e he => by
    obtain ⟨i3, hi3⟩ := List.mem_iff_getElem?.mp he
    obtain ⟨l, z1, z2⟩ := al.2 i3 e hi3
    cases z1
    exact ⟨l, rfl, z2⟩
  rw [List.length_map] at al
  refine ss_setN 9 C3 (Ps := fun es => ∃ L : List Nat, es = nD L ∧ L.Perm ((List.range 50).map fun j => y.tys.length + j)) (ne_callM 0 rfl rfl (ok_mixed T) r2 (da_consE ((NE.de (ne_listRg2 (i := (y.tys.length : Int)) (n := 50) rfl T.n_list T.n_range (de_len T.n_len (de_ix (da := .tuple [y.f, .tuple y.tys, y.t]) (d := .tuple y.tys) (de_var 1 rfl) de_int rfl).dr rfl) (de_add (de_len T.n_len (de_ix (da := .tuple [y.f, .tuple y.tys, y.t]) (d := .tuple y.tys) (de_var 1 rfl) de_int rfl).dr rfl) de_int) (by omega) (by omega) (by decide))).imp fun d ⟨l, e, el⟩ => (by rw [e, el] : d = .list _)) da_nilE) (fun ds e => ⟨(List.range 50).map fun j => y.tys.length + j, ⟨by rw [e, nD, List.map_map]; congr 2, by simp⟩, fun d p => p⟩)) (fun nl d σ4 H4 hnlS C4 _ ⟨L, e, hLp⟩ => ?_) sc_L_function.nd
  subst e
  have hLl : L.length = 50 := by rw [hLp.length_eq]; simp
  have hLt : ∀ z ∈ L, y.tys.length ≤ z := fun z hz => by
    obtain ⟨j, _, e⟩ := List.mem_map.mp (hLp.mem_iff.mp hz)
    omega
  have hLn : L.Nodup := by
    refine hLp.nodup_iff.mpr ?_
    rw [List.nodup_iff_pairwise_ne, List.pairwise_map]
    exact (List.nodup_iff_pairwise_ne.mp List.nodup_range).imp fun h e => h (by omega)
  have hnlM : nl ∉ [dl, cl] := (C4.objs _ List.mem_cons_self).2.2.1
  -- the scene
  refine ss_cons (S1.of (ps_set (i := 10) sc_L_function.nd rfl (.inl rfl) pee rfl (.inl rfl)) (ev_tup ?_))
  refine ea_cons ((show DE (xF P w K mg base cdv A outer s H0 E) _ _ _ _ _ (fun z => z = .list y.hs) from de_var 2 rfl) σ4 H4 C4 _ fun v1 H5 d1 C5 s5 e1 q1 => ?_)
  refine ea_cons ((show DE (xF P w K mg base cdv A outer s H0 E) _ _ _ _ _ (fun z => z = .list y.names) from de_var 3 rfl) σ4 H5 C5 _ fun v2 H6 d2 C6 s6 e2 q2 => ?_)
  refine ea_cons ((show DE (xF P w K mg base cdv A outer s H0 E) _ _ _ _ _ (fun z => z = .list (heads.map PyData.list)) from de_var 6 rfl) σ4 H6 C6 _ fun v3 H7 d3 C7 s7 e3 q3 => ?_)
  refine ea_cons ((show NE (xF P w K mg base cdv A outer s H0 E) _ _ _ _ _ (fun es => ∃ l', es = nD l' ∧ l'.Perm (List.range 9)) from ne_callM 0 rfl rfl (ok_mixed T) r2 (da_consE ((NE.de (ne_listRg1 (n := 9) rfl T.n_list T.n_range de_int (by decide))).imp fun d ⟨l, e, el⟩ => (by rw [e, el]; rfl : d = .list (nD (List.range 9)))) da_nilE) (fun ds e => ⟨List.range 9, ⟨e, by decide⟩, fun d p => p⟩)) σ4 H7 C7 _ fun p4 H8 es4 xs4 C8 s8 hp4 hl4 ⟨labels, e4, hlab⟩ rs4 => ?_)
  refine ea_cons (ev_v 9 C8 rfl ?_)
  refine ea_cons ((show DE (xF P w K mg base cdv A outer s H0 E) _ _ _ _ _ (fun z => z = .list (webD ts)) from de_var 5 rfl) σ4 H8 C8 _ fun v6 H9 d6 C9 s9 e6 q6 => ?_)
  refine ea_cons ((show DE (xF P w K mg base cdv A outer s H0 E) _ _ _ _ _ (fun z => z = y.t) from de_ix (da := .tuple [y.f, .tuple y.tys, y.t]) (de_var 1 rfl) de_int rfl) σ4 H9 C9 _ fun v7 H10 d7 C10 s10 e7 q7 => ea_nil ⟨Nat.le_of_lt (small1000 (by show 7 ≤ 1000; decide)), fun sc hsc => ?_⟩)
  subst e1 e2 e3 e4 e6 e7
  have q4 : Rp K (nl :: S0) H8 (.list (nD labels)) (.ref p4) := ⟨p4, xs4, rfl, ⟨C7.trk.out hp4, hl4⟩, rs4.mv (Mv.sub fun x hx => List.mem_cons_of_mem _ hx)⟩
  have st : Stp [] H10 (upd H10 sc (.tup [v1, v2, v3, .ref p4, .ref nl, v6, v7])) := Stp.new hsc
  have CE := C10.ext st
  have m10 := Ctx.mvA (X := xF P w K mg base cdv A outer s H0 E) C10 st.nil hsc
  generalize hxx : (⟨ts, labels, L, heads, y.hs, y.names, y.t⟩ : BkIn) = x
  have hscS : sc ∉ nl :: S0 := C10.trk.out hsc
  have CA : Dl.Ctx K ⟨[dl, cl], H, [dl, cl]⟩ (sc :: nl :: S0) ((sc, .tp (scn x nl)) :: [(nl, .lst (nD L))]) _ σ4 (upd H10 sc (.tup [v1, v2, v3, .ref p4, .ref nl, v6, v7])) := Ctx.adopt (X := xF P w K mg base cdv A outer s H0 E) C10 CE st.nil hsc (by
    subst hxx
    refine ⟨[v1, v2, v3, .ref p4, .ref nl, v6, v7], upd_same, ?_⟩
    exact ⟨_, _, rfl, ⟨_, rfl, (C9.mv s10 (C8.mv s9 (C7.mv s8 (C6.mv s7 (C5.mv s6 q1))))).mv m10⟩, _, _, rfl, ⟨_, rfl, (C9.mv s10 (C8.mv s9 (C7.mv s8 (C6.mv s7 q2)))).mv m10⟩, _, _, rfl, ⟨_, rfl, (C9.mv s10 (C8.mv s9 (C7.mv s8 q3))).mv m10⟩, _, _, rfl, ⟨_, rfl, (C9.mv s10 (C8.mv s9 q4)).mv m10⟩, _, _, rfl, rfl, _, _, rfl, ⟨_, rfl, (C9.mv s10 q6).mv m10⟩, _, _, rfl, ⟨_, rfl, q7.mv m10⟩, rfl⟩)
  have CS := CA.set 10 (o := some (.ref sc)) (s := .v (.ref sc)) rfl
  have so : SceneOk x := by
    subst hxx
    exact ⟨hs0, hs1, hs2, hn0, hn1, hn2, al.1, hheads, by show ts.length ≤ labels.length; rw [hlab.length_eq]; simp; omega, hweb, h2, hLn, ht⟩
  have hlabn : x.labels.Nodup := by
    subst hxx
    exact hlab.nodup_iff.mpr List.nodup_range
  refine ss_set 11 (X := xF P w K mg base cdv A outer s H0 E) CS (P := fun d => ∃ o : List Nat, d = .list (nD o) ∧ o.Nodup ∧ ∀ y ∈ o, y < ts.length) (de_call (ok_reached T) r1 (da_consE (de_var 5 rfl) (da_consE (de_neg de_int) da_nilE)) (pre1 (ts, (-1 : Int)) ⟨rfl, (by show ts.length ≤ 100; omega), (by show 0 < ts.length; omega), hweb⟩ fun d ⟨o, e, h3, h4, _⟩ => ⟨o, e, h3, h4⟩)) (fun d σ11 H11 C11 _ ⟨near, e, hnn, hnl2⟩ => ?_) sc_L_function.nd
  subst e
  refine ss_parDDt 12 13 (Pq := fun m => m = []) (Pm := fun m => m = []) C11 rfl nd_new (fun _ _ => nd_new) (fun bp mp da db σ12 H12 hbp hmp C12 e1 e2 => ?_) sc_L_function.nd
  subst e1 e2
  have hT : L.take 50 = L := List.take_of_length_le (by omega)
  have eg : gF x nl sc bp mp ⟨[], [], 50⟩ = [(mp, .dct []), (bp, .dct []), (sc, .tp (scn x nl)), (nl, .lst (nD L))] := by
    subst hxx
    simp only [gF, mkD, bkD, List.map_nil]
    rw [hT]
  have C13 : Dl.Ctx K ⟨[dl, cl], H, [dl, cl]⟩ (mp :: bp :: sc :: nl :: S0) (gF x nl sc bp mp ⟨[], [], 50⟩) (sF y x dl nl sc near (.v (.ref bp)) (.v (.ref mp)) .u .u .u .u .u) σ12 H12 := by
    rw [eg]
    subst hxx
    exact C12
  have hxL : x.L = L := by rw [← hxx]
  have hxt : x.ts = ts := by rw [← hxx]
  have hdis : ([mp, bp, sc, nl] : List Addr).Nodup := by
    simp only [List.nodup_cons, List.mem_cons, List.not_mem_nil, or_false, not_or, List.nodup_nil, and_true, not_false_eq_true]
    simp only [List.mem_cons, not_or] at hmp hbp hscS
    exact ⟨⟨hmp.1, hmp.2.1, hmp.2.2.1⟩, ⟨hbp.1, hbp.2.1⟩, hscS.1⟩
  have hM4 : ∀ a ∈ [mp, bp, sc, nl], a ∉ (⟨[dl, cl], H, [dl, cl]⟩ : Wd).M := fun a ha => by
    have hb : ∃ mo, (a, mo) ∈ gF x nl sc bp mp ⟨[], [], 50⟩ := by
      rw [eg]
      simp only [List.mem_cons, List.not_mem_nil, or_false] at ha ⊢
      rcases ha with rfl | rfl | rfl | rfl
      · exact ⟨_, .inl rfl⟩
      · exact ⟨_, .inr (.inl rfl)⟩
      · exact ⟨_, .inr (.inr (.inl rfl))⟩
      · exact ⟨_, .inr (.inr (.inr rfl))⟩
    obtain ⟨mo, hb⟩ := hb
    exact (C13.objs _ hb).2.2.1
  refine fn_loop T so hrx rfl (by rw [hxL]; exact hLl) (by rw [hxL]; exact hLt) hty hty3 hnn (by rw [hxt]; exact hnl2) hdis hM4 C13 fun g σ14 H14 iv C14 => ?_
  refine fn_end T so hlabn hf (by rw [hxL]; exact hLl) (by rw [hxt]; omega) hrx rfl rfl hnn (by rw [hxt]; exact hnl2) iv C14 fun v H15 d pf ⟨G, δ, σ15, C15⟩ rv => ?_
  exact hQ v H15 d C15.fr (Ctx.dealW (X := xF P w K mg base cdv A outer s H0 E) C15 rfl) pf (rv.mv (Mv.sub fun z hz => List.mem_cons_of_mem _ (List.mem_cons_of_mem _ (List.mem_cons_of_mem _ (List.mem_cons_of_mem _ hz)))))
end
end K53
/-! text A20 -/
set_option Elab.async false
set_option linter.all false
set_option maxRecDepth 100000
set_option maxHeartbeats 2000000
namespace K53
open PySem PySem.Spec PyProof.Rows L2 Dl
local macro_rules | `(tactic| walk_at "fl") => `(tactic| first | rfl | assumption | (simp only [*]; done) | decide)
/-! ### made, pure -/
/-- an op whatever its order -/
structure OpW (o : OpI) : Prop where
  fk : Fk o.kind o.info o.want o.srt
  len : o.args.length = o.want.length
  arg : ∀ a ∈ o.args, ArgOk a
theorem OpD.w {L : List Nat} {o : OpI} (h : OpD L o) : OpW o := ⟨h.fk, h.len, h.arg⟩
def isM (d : PyData) : Bool := isS d || isN d
theorem fk_info {k : Str} {info want : List PyData} {srt : PyData} (h : Fk k info want srt) : info ≠ [] := by cases h <;> simp
theorem isM_S {d : PyData} (h : isS d = true) : isM d = true := by unfold isM; rw [h]; rfl
theorem isM_flat {d : PyData} (h : isM d = true) : flat d = true := by
  cases d <;> first | rfl | cases h
theorem isM_sc {a b : PyData} (ha : isM a = true) (hb : isM b = true) : sc a b = true := by
  cases a <;> first | (cases b <;> first | rfl | cases hb) | cases ha
section
variable {P : Program} {w : World} {K : PySem.W.Frag} {mg : Str → Option Value} {base : Heap}
/-- an op that makes a value and what _law_made tells of it -/
theorem ok_made (T : Txt K mg) : DefOk P w K mg base 1 "_law_made" ["_law_op"] (spP K (fun (o : OpI) ds => ds = [o.d] ∧ OpW o) (fun _ d => isM d = true)) := by
  refine def_P T.F_L_made T.g_L_made b_L_made sc_L_made (by rintro n _ ⟨rfl, _⟩; rfl) ?_
  rintro X ⟨cdv, A, outer, s, H0, E, hr, rfl⟩ ⟨v, kind, info, args, want, srt⟩ S0 H ds σ Q C ⟨rfl, ow⟩ hQ
  have fk := ow.fk
  dsimp only [OpI.d] at C fk
  refine ss_par 1 2 (Pa := fun y => y = .str kind) (Pb := fun y => y = .tuple info) C (de_ix (de_var 0 rfl) de_int rfl) (fun _ _ => de_ix (de_var 0 rfl) de_int rfl) (fun da db σ' H' C1 _ e1 e2 => ?_) rfl sc_L_made.nd (by decide) (ps_par rfl sc_L_made.nd rfl rfl (by decide) rfl rfl (pa_cons pee (pa_cons pee pa_nil)) (by rfl))
  subst e1 e2
  refine ss_if C1 (be_in rfl (de_var 1 rfl) de_lit rfl rfl) (fun H2 C2 _ _ => ?_) (fun H2 C2 _ e => ss_nil ?_)
  · exact ss_retP (S0 := S0) C2 de_str hQ fun d e => by rw [e]; decide
  refine ss_if C2 (be_eq (de_var 1 rfl) de_str rfl) (fun H3 C3 _ _ => ?_) (fun H3 C3 _ e3 => ss_nil ?_)
  · exact ss_retP (S0 := S0) C3 de_int hQ fun d e => by rw [e]; decide
  refine ss_retP (S0 := S0) (P := fun d => isM d = true) C3 ?_ hQ fun d e => e
  refine de_if (be_eq (de_var 1 rfl) de_str rfl) (fun e4 => ?_) (fun e4 => de_if (be_eq (de_var 1 rfl) de_str rfl) (fun e5 => ?_) (fun e5 => de_if (be_ne (de_var 1 rfl) de_str rfl) (fun e6 => ?_) (fun e6 => de_non.imp fun d e => by rw [e]; decide)))
  · cases fk with
    | bin h1 h2 => exact (de_ix (de_var 2 rfl) de_int rfl).imp fun d e => by rw [e]; exact isM_S (isS_W h2)
    | _ => exact absurd e4 (by decide)
  · cases fk with
    | cast h1 h2 h3 => exact (de_ix (de_var 2 rfl) de_int rfl).imp fun d e => by rw [e]; exact isM_S (isS_W h3)
    | _ => exact absurd e5 (by decide)
  · cases fk with
    | select h => exact (de_ix (de_var 2 rfl) de_int rfl).imp fun d e => by rw [e]; exact isM_S h
    | load h => exact (de_ix (de_var 2 rfl) de_int rfl).imp fun d e => by rw [e]; exact isM_S (isS_W h)
    | store h => exact (de_ix (de_var 2 rfl) de_int rfl).imp fun d e => by rw [e]; exact isM_S (isS_W h)
    | print h => exact (de_ix (de_var 2 rfl) de_int rfl).imp fun d e => by rw [e]; exact isM_S (isS_W h)
    | input h => exact (de_ix (de_var 2 rfl) de_int rfl).imp fun d e => by rw [e]; exact isM_S (isS_W h)
    | bin h1 h2 => exact absurd e4 (by decide)
    | cast h1 h2 h3 => exact absurd e5 (by decide)
    | cmp h1 h2 => exact absurd e3 (by decide)
    | alloca h => exact absurd e (by decide)
    | at_ h => exact absurd e (by decide)
    | call h1 h2 h3 h4 => exact absurd e6 (by decide)
end
end K53
/-! text A21 -/
set_option Elab.async false
set_option linter.all false
set_option maxRecDepth 100000
set_option maxHeartbeats 2000000
namespace K53
open PySem PySem.Spec PyProof.Rows L2 Dl
local macro_rules | `(tactic| walk_at "fl") => `(tactic| first | rfl | assumption | (simp only [*]; done) | decide)
theorem ArgOk.two {d : PyData} (h : ArgOk d) : ∃ (t : Str) (z : PyData), d = .tuple [.str t, z] ∧ (t = "n" → ∃ i : Int, z = .int i) ∧ flat z = true := by
  rcases h with ⟨k, rfl⟩ | ⟨i, rfl⟩ | ⟨x, rfl⟩
  · exact ⟨_, _, rfl, fun e => absurd e (by decide), rfl⟩
  · exact ⟨_, _, rfl, fun _ => ⟨i, rfl⟩, rfl⟩
  · exact ⟨_, _, rfl, fun e => absurd e (by decide), rfl⟩
theorem str_eq {a b : Str} (h : decide (fV (.str a) = fV (.str b)) = true) : a = b := by
  simp only [fV, decide_eq_true_eq, V.str.injEq] at h
  exact h
section
variable {P : Program} {w : World} {K : PySem.W.Frag} {mg : Str → Option Value} {base : Heap}
theorem ok_pure (T : Txt K mg) : DefOk P w K mg base 1 "_law_pure" ["_law_op"] (spP K (fun (o : OpI) ds => ds = [o.d] ∧ OpW o) (fun _ d => ∃ b, d = .bool b)) := by
  refine def_P T.F_L_pure T.g_L_pure b_L_pure sc_L_pure (by rintro n _ ⟨rfl, _⟩; rfl) ?_
  rintro X ⟨cdv, A, outer, s, H0, E, hr, rfl⟩ ⟨v, kind, info, args, want, srt⟩ S0 H ds σ Q C ⟨rfl, ow⟩ hQ
  have fk := ow.fk
  have alen := ow.len
  have aok := ow.arg
  dsimp only [OpI.d] at C fk alen aok
  have rest : ∀ σ1 H1, Dl.Ctx K ⟨[], H, []⟩ S0 [] [.d (.tuple [v, .str kind, .tuple info, .tuple args])] σ1 H1 → SS (cxOf CX0 P w K mg base ["_law_op"] "_law_pure" (defScope s_L_pure) (He.ga K "_law_pure") cdv A outer s H0 E).nox ((defBody s_L_pure).drop 1) { nx := fun _ H' => Q .non H', rt := Q } σ1 H1 := fun σ1 H1 C1 =>
    ss_retP (S0 := S0) C1 (de_in rfl (de_ix (da := .tuple [v, .str kind, .tuple info, .tuple args]) (de_var 0 rfl) de_int rfl) de_lit rfl rfl) hQ fun d e => ⟨_, e⟩
  by_cases hb : kind = "bin"
  · subst hb
    cases fk with
    | bin h1 h2 =>
      rename_i sw
      obtain ⟨xw, rfl⟩ := isT_str h1
      obtain ⟨a1, a2, rfl⟩ : ∃ a1 a2, args = [a1, a2] := by
        match args, alen with
        | [a, b], _ => exact ⟨a, b, rfl⟩
      obtain ⟨t2, z2, rfl, hz, hf⟩ := (aok a2 (by simp)).two
      refine ss_if (Pt := fun _ => True) C (be_bw (bw_and (P1 := fun _ => True) (P2 := fun _ => True) ((be_eq (de_ix (da := .tuple [v, .str "bin", .tuple [.str xw, srt], .tuple [a1, .tuple [.str t2, z2]]]) (de_var 0 rfl) de_int rfl) de_str rfl).imp fun _ _ => True.intro) (fun _ => bw_and1 ((be_in rfl (de_ix (de_ix (da := .tuple [v, .str "bin", .tuple [.str xw, srt], .tuple [a1, .tuple [.str t2, z2]]]) (de_var 0 rfl) de_int rfl) de_int rfl) de_lit rfl rfl).imp fun _ _ => True.intro)) (fun _ => True.intro) (fun _ _ _ => True.intro))) (fun H1 C1 _ _ => ?_) (fun H1 C1 _ _ => ss_nil (rest _ _ C1))
      refine ss_retP (S0 := S0) (P := fun d => ∃ b, d = .bool b) C1 (de_and2 (P1 := fun b => b = decide (fV (.str t2) = fV (.str "n"))) (P2 := fun _ => True) ((de_eqS (de_ix (de_ix (de_ix (da := .tuple [v, .str "bin", .tuple [.str xw, srt], .tuple [a1, .tuple [.str t2, z2]]]) (de_var 0 rfl) de_int rfl) de_int rfl) de_int rfl) de_str rfl).imp fun d e => ⟨_, e, rfl⟩) (fun e => ?_) (fun _ => ⟨false, rfl⟩)) hQ fun d e => e
      obtain ⟨i, rfl⟩ := hz (str_eq e.symm)
      exact (de_gt (de_ix (de_ix (de_ix (da := .tuple [v, .str "bin", .tuple [.str xw, srt], .tuple [a1, .tuple [.str t2, .int i]]]) (de_var 0 rfl) de_int rfl) de_int rfl) de_int rfl) de_int).imp fun d e => ⟨_, e⟩
  · refine ss_if C (be_bw (bw_and (P := fun b => b = false) (P1 := fun b => b = false) (P2 := fun _ => True) ((be_eq (de_ix (da := .tuple [v, .str kind, .tuple info, .tuple args]) (de_var 0 rfl) de_int rfl) de_str rfl).imp fun b e => by
      rw [e]
      cases q : decide (fV (.str kind) = fV (.str "bin")) with
      | true => exact absurd (str_eq q) hb
      | false => rfl) (fun e => by cases e) (fun _ => rfl) (fun _ e _ => by cases e))) (fun H1 C1 _ e => by cases e) (fun H1 C1 _ _ => ss_nil (rest _ _ C1))
end
end K53
/-! text A22 -/
set_option Elab.async false
set_option linter.all false
set_option maxRecDepth 100000
set_option maxHeartbeats 2000000
namespace K53
open PySem PySem.Spec PyProof.Rows L2 Dl
local macro_rules | `(tactic| walk_at "fl") => `(tactic| first | rfl | assumption | (simp only [*]; done) | decide)
/-- the targets of an ending -/
def waysD (tg : List Nat) (as : List PyData) : List PyData := List.zipWith (fun (t : Nat) a => PyData.tuple [.int (t : Int), a]) tg as
section
variable {P : Program} {w : World} {K : PySem.W.Frag} {mg : Str → Option Value} {base : Heap}
theorem ok_ways (T : Txt K mg) : DefOk P w K mg base 1 "_law_ways" ["_law_ending"] (spP K (fun (x : PyData × List Nat) ds => ds = [x.1] ∧ EndD x.1 x.2) (fun x d => ∃ as : List PyData, d = .list (waysD x.2 as) ∧ as.length = x.2.length)) := by
  refine def_P T.F_L_ways T.g_L_ways b_L_ways sc_L_ways (by rintro n _ ⟨rfl, _⟩; rfl) ?_
  rintro X ⟨cdv, A, outer, s, H0, E, hr, rfl⟩ ⟨en, tg⟩ S0 H ds σ Q C ⟨rfl, he⟩ hQ
  dsimp only at C he hQ
  cases he with
  | @branch o a b l k =>
    refine ss_retP (S0 := S0) (P := fun d => d = .list [.tuple [.int (l : Int), a], .tuple [.int (k : Int), b]]) C (de_if (be_eq (de_ix (da := .tuple [.str "branch", o, .tuple [.int (l : Int), a], .tuple [.int (k : Int), b]]) (de_var 0 rfl) de_int rfl) de_str rfl) (fun e => absurd e (by decide)) (fun _ => de_if (be_eq (de_ix (da := .tuple [.str "branch", o, .tuple [.int (l : Int), a], .tuple [.int (k : Int), b]]) (de_var 0 rfl) de_int rfl) de_str rfl) (fun _ => ?_) (fun e => absurd e (by decide)))) hQ fun d e => ⟨[a, b], by rw [e]; rfl, rfl⟩
    exact (NE.de (ne_list T.n_list (de_tupFrom (k := 1) (ds := [.str "branch", o, .tuple [.int (l : Int), a], .tuple [.int (k : Int), b]]) (de_var 0 rfl) de_int (by simp)) rfl)).imp fun d ⟨l, e, el⟩ => by rw [e, el]; rfl
  | @jump a l =>
    refine ss_retP (S0 := S0) (P := fun d => d = .list [.tuple [.int (l : Int), a]]) C (de_if (be_eq (de_ix (da := .tuple [.str "jump", .tuple [.int (l : Int), a]]) (de_var 0 rfl) de_int rfl) de_str rfl) (fun _ => ?_) (fun e => absurd e (by decide))) hQ fun d e => ⟨[a], by rw [e]; rfl, rfl⟩
    exact (NE.de (ne_list T.n_list (de_tupFrom (k := 0) (ds := [.str "jump", .tuple [.int (l : Int), a]]) (de_var 0 rfl) de_int (by simp)) rfl)).imp fun d ⟨l, e, el⟩ => by rw [e, el]; rfl
  | stop =>
    refine ss_retP (S0 := S0) (P := fun d => d = .list []) C (de_if (be_eq (de_ix (da := .tuple [.str "stop"]) (de_var 0 rfl) de_int rfl) de_str rfl) (fun e => absurd e (by decide)) (fun _ => de_if (be_eq (de_ix (da := .tuple [.str "stop"]) (de_var 0 rfl) de_int rfl) de_str rfl) (fun e => absurd e (by decide)) (fun _ => ne_nil.de.imp fun d ⟨l, e, el⟩ => by rw [e, el]))) hQ fun d e => ⟨[], by rw [e]; rfl, rfl⟩
  | @ret v =>
    refine ss_retP (S0 := S0) (P := fun d => d = .list []) C (de_if (be_eq (de_ix (da := .tuple [.str "return", v]) (de_var 0 rfl) de_int rfl) de_str rfl) (fun e => absurd e (by decide)) (fun _ => de_if (be_eq (de_ix (da := .tuple [.str "return", v]) (de_var 0 rfl) de_int rfl) de_str rfl) (fun e => absurd e (by decide)) (fun _ => ne_nil.de.imp fun d ⟨l, e, el⟩ => by rw [e, el]))) hQ fun d e => ⟨[], by rw [e]; rfl, rfl⟩
theorem ok_end_labels (T : Txt K mg) : DefOk P w K mg base 1 "end_labels" ["end"] (spP K (fun (x : PyData × List Nat) ds => ds = [x.1] ∧ EndD x.1 x.2) (fun x d => d = .tuple (nD x.2))) := by
  refine def_P T.F_end_labels T.g_end_labels b_end_labels sc_end_labels (by rintro n _ ⟨rfl, _⟩; rfl) ?_
  rintro X ⟨cdv, A, outer, s, H0, E, hr, rfl⟩ ⟨en, tg⟩ S0 H ds σ Q C ⟨rfl, he⟩ hQ
  dsimp only at C he hQ
  cases he with
  | @branch o a b l k =>
    refine ss_if C (be_eq (de_ix (da := .tuple [.str "branch", o, .tuple [.int (l : Int), a], .tuple [.int (k : Int), b]]) (de_var 0 rfl) de_int rfl) de_str rfl) (fun H1 C1 _ e => absurd e (by decide)) (fun H1 C1 _ _ => ss_nil ?_)
    refine ss_if C1 (be_eq (de_ix (da := .tuple [.str "branch", o, .tuple [.int (l : Int), a], .tuple [.int (k : Int), b]]) (de_var 0 rfl) de_int rfl) de_str rfl) (fun H2 C2 _ e => ?_) (fun H2 C2 _ e => absurd e (by decide))
    exact ss_retP (S0 := S0) C2 (de_tupE (da_consE (de_ix (de_ix (da := .tuple [.str "branch", o, .tuple [.int (l : Int), a], .tuple [.int (k : Int), b]]) (de_var 0 rfl) de_int rfl) de_int rfl) (da_consE (de_ix (de_ix (da := .tuple [.str "branch", o, .tuple [.int (l : Int), a], .tuple [.int (k : Int), b]]) (de_var 0 rfl) de_int rfl) de_int rfl) da_nilE))) hQ fun d e => e
  | @jump a l =>
    refine ss_if C (be_eq (de_ix (da := .tuple [.str "jump", .tuple [.int (l : Int), a]]) (de_var 0 rfl) de_int rfl) de_str rfl) (fun H1 C1 _ e => ?_) (fun H1 C1 _ e => absurd e (by decide))
    exact ss_retP (S0 := S0) C1 (de_tupE (da_consE (de_ix (de_ix (da := .tuple [.str "jump", .tuple [.int (l : Int), a]]) (de_var 0 rfl) de_int rfl) de_int rfl) da_nilE)) hQ fun d e => e
  | stop =>
    refine ss_if C (be_eq (de_ix (da := .tuple [.str "stop"]) (de_var 0 rfl) de_int rfl) de_str rfl) (fun H1 C1 _ e => absurd e (by decide)) (fun H1 C1 _ _ => ss_nil ?_)
    refine ss_if C1 (be_eq (de_ix (da := .tuple [.str "stop"]) (de_var 0 rfl) de_int rfl) de_str rfl) (fun H2 C2 _ e => absurd e (by decide)) (fun H2 C2 _ e => ss_nil ?_)
    exact ss_retP (S0 := S0) C2 (de_tupE da_nilE) hQ fun d e => e
  | @ret v =>
    refine ss_if C (be_eq (de_ix (da := .tuple [.str "return", v]) (de_var 0 rfl) de_int rfl) de_str rfl) (fun H1 C1 _ e => absurd e (by decide)) (fun H1 C1 _ _ => ss_nil ?_)
    refine ss_if C1 (be_eq (de_ix (da := .tuple [.str "return", v]) (de_var 0 rfl) de_int rfl) de_str rfl) (fun H2 C2 _ e => absurd e (by decide)) (fun H2 C2 _ e => ss_nil ?_)
    exact ss_retP (S0 := S0) C2 (de_tupE da_nilE) hQ fun d e => e
end
end K53
/-! text D19 -/
set_option Elab.async false
set_option linter.all false
set_option maxRecDepth 100000
set_option maxHeartbeats 1000000
namespace Dl
open PySem PySem.Spec PyProof.Rows L2
section
variable {X : Cx} {W : Wd} {S : List Addr} {G : List (Addr × MO)} {δ δ' δ'' : List Sl} {a b c e tg : Expr} {es : List Expr} {P Pa Pb : PyData → Prop} {pos : Pos} {σ : L2.St} {H H1 : Hp} {D : Ends} {r : List Stmt} {d x y : PyData} {ds l : List PyData} {js ks : List Nat} {m : List (Key × PyData)} {k : Key} {J : It}
theorem nd_dcX {own : List (Str × Nat)} {scope : Scope} {kx vx iter : Expr} {ifs : List Expr} (f : Nat → Option (Key × PyData)) (he : IT X W S G δ tg iter ds) (hlen : ds.length ≤ 999) (hj : ∀ j ∈ js, j ∈ own.map (·.2))
    (ht : ∀ (i : Nat) (d : PyData) (DA : Addr) (m : List (Key × PyData)), DA ∉ S → ds[i]? = some d → DcTurn X scope W (DA :: S) ((DA, .dct m) :: G) (wipeD δ (own.map (·.2))) tg ifs kx vx js d (f i))
    (hc : X.calm = true) (hN : X.N.Nodup) (ok : BlkOk X.N X.env.scope scope own) (hs : ∀ x, foldedSetIterable iter X.env x = pure x := by intro _; rfl) : ND X W S G δ (.DictComp kx vx [⟨tg, iter, ifs, 0⟩] scope pos) (fun m => m = dmk ((List.range ds.length).filterMap f)) := fun σ H C Q q => by
  refine EE.of (pe_dcB hc hN pie ok hs) (he σ H C _ fun J H1 C1 s1 hw DA hDA => ?_)
  obtain ⟨Gd, Y, hw, hG, hY⟩ := hw
  have hDS : DA ∉ S := C1.trk.out hDA
  have hnG : ∀ q ∈ G, q.1 ≠ DA := fun q hq z => hDS (by rw [← z]; exact (C1.objs q hq).2.1)
  have C1' : Ctx X.K W (DA :: S) ((DA, .dct []) :: G) δ σ (upd H1 DA (.dK [])) := C1.vol hDA ⟨[], upd_same, rfl⟩
  have toS : ∀ {H' : Hp}, Stp (DA :: W.M) (upd H1 DA (.dK [])) H' → Stp S H1 H' := fun {H'} s b o e n => by
    have hb : b ≠ DA := ne_of_none e hDA
    refine s b o (by rw [upd_ne hb]; exact e) fun z => ?_
    rcases List.mem_cons.mp z with z | z
    · exact hb z
    · exact n (C1.ms b z).1
  refine dc_it hw (fun i H' => Ctx X.K W (DA :: S) ((DA, .dct (dmk ((List.range i).filterMap f))) :: G) δ σ H' ∧ Stp (DA :: W.M) (upd H1 DA (.dK [])) H') ⟨C1', .refl⟩ (fun i H' _ ⟨C', s⟩ => hG H' (toS s)) (fun i x H' H'' hi ⟨C', s⟩ yy => ?_) (fun H' ⟨C', s'⟩ => ?_)
  · obtain ⟨s2, hr⟩ := hY i H' x H'' hi (toS s) yy
    have hd : ds[i]? = some ds[i] := List.getElem?_eq_getElem hi
    have rd : Rp X.K (DA :: S) H'' ds[i] x := hr (DA :: S) _ (fun b o e n => ⟨toS s b o e n, fun z => by
      rcases List.mem_cons.mp z with z | z
      · rw [z, hDA] at e; cases e
      · exact n z⟩) C'.trk hd
    have hnext : (List.range (i + 1)).filterMap f = (List.range i).filterMap f ++ (f i).toList := by
      rw [List.range_succ, List.filterMap_append]
      cases e : f i <;> simp [e]
    have hml : ((List.range i).filterMap f).length ≤ 999 := by
      have h1 := List.length_filterMap_le f (List.range i)
      rw [List.length_range] at h1
      omega
    generalize hacc : (List.range i).filterMap f = acc at *
    obtain ⟨δ1, t, g1, g2, g3, g4⟩ := ht i ds[i] DA (dmk acc) hDS hd
    have C2 := C'.ext s2
    have Cw : Ctx X.K W (DA :: S) ((DA, .dct (dmk acc)) :: G) (wipeD δ (own.map (·.2))) (wipe σ (own.map (·.2))) H'' := ⟨C2.env.wipe _, C2.deal, C2.ms, C2.objs, C2.trk, C2.fr⟩
    intro s0 HZ Cb cl fp
    refine g1 s0 HZ Cb cl fp _ H'' x Cw rd _ fun σ2 C3 w2 => ⟨?_, fun s0 HZ Cb cl fp => ?_⟩
    · rw [w2 _ hj, wipe_wipe]
    have out : ∀ {H3 : Hp}, Ctx X.K W (DA :: S) ((DA, .dct (dmk acc)) :: G) δ1 σ2 H3 → Stp W.M H'' H3 → Ctx X.K W (DA :: S) ((DA, .dct (dmk acc)) :: G) δ σ H3 := fun {H3} C3 st => ⟨C2.env.mv (st.mv fun x hx => (C2.ms x hx).1), C3.deal, C3.ms, C3.objs, C3.trk, C3.fr⟩
    refine g2 s0 HZ Cb cl fp σ2 H'' C3 _ fun b H3 C4 s3 pb => ?_
    have sb : Stp (DA :: W.M) (upd H1 DA (.dK [])) H3 := (s.trans s2.nil).trans (s3.mono fun x hx => List.mem_cons_of_mem _ hx)
    subst pb
    cases b with
    | false =>
      refine iteF ⟨?_, sb⟩
      rw [hnext, g4 rfl]
      simp only [Option.toList, List.append_nil]
      exact out C4 s3
    | true =>
      obtain ⟨k, v, eo, hk, hv⟩ := g3 rfl
      refine iteT fun s0 HZ Cb cl fp => hk s0 HZ Cb cl fp σ2 H3 C4 _ fun u H4 du C5 s4 e4 r4 => ?_
      intro s0 HZ Cb cl fp
      refine hv s0 HZ Cb cl fp σ2 H4 C5 _ fun w H5 dw C6 s5 e5 r5 => ?_
      subst e4 e5
      have C6' := out C6 ((s3.trans s4).trans s5)
      obtain ⟨⟨kvs, hl, rk⟩, haS, haM, _⟩ := C6'.objs _ List.mem_cons_self
      have hml2 := dmk_len acc
      refine ⟨kvs, k, kD_v r4, hl, by rw [rk.len]; exact small1000 (by omega), ?_, ?_⟩
      · rw [hnext, eo]
        simp only [Option.toList]
        rw [dmk_snoc]
        have m' : Mv (DA :: S) (DA :: S) H5 (upd H5 DA (.dK (putK kvs k w))) := fun b u e n => ⟨by rw [upd_ne (fun z => n (by rw [z]; exact List.mem_cons_self))]; exact e, n⟩
        refine C6'.wr (y := .dct (dpt (dmk acc) k dw)) List.mem_cons_self (fun z hz => ?_) ⟨putK kvs k w, upd_same, (rk.put k r5).mv m'⟩
        rcases List.mem_cons.mp hz with z' | hz
        · exact .inl z'
        · exact .inr ⟨List.mem_cons_of_mem _ hz, hnG z hz⟩
      · exact (sb.trans ((s4.trans s5).mono fun x hx => List.mem_cons_of_mem _ hx)).trans (Stp.wr List.mem_cons_self)
  · obtain ⟨⟨ys, hl, rys⟩, _⟩ := C'.objs _ List.mem_cons_self
    have CS : Ctx X.K W S G δ σ H' := C'.drop hDS (fun q hq => (C1.objs q hq).2.1) fun a ha => (C1.ms a ha).1
    exact q DA H' _ ys CS (s1.trans (stp_new hDA s')) (C.back C1 s1 hDA) hl rfl rys
end
end Dl
/-! text A23 -/
set_option Elab.async false
set_option linter.all false
set_option maxRecDepth 100000
set_option maxHeartbeats 400000
namespace K53
open PySem PySem.Spec PyProof.Rows L2 Dl
local macro_rules | `(tactic| walk_at "fl") => `(tactic| first | rfl | assumption | (simp only [*]; done) | decide)
/-! ### the program's web -/
theorem filterMap_some {α β : Type} (g : α → β) : ∀ (bl : List α), (List.range bl.length).filterMap (fun i => (bl[i]?).map g) = bl.map g
  | [] => rfl
  | a :: bl => by
    have ih := filterMap_some g bl
    rw [List.length_cons, List.range_succ_eq_map, List.filterMap_cons, List.filterMap_map]
    have e : ((fun i => ((a :: bl)[i]?).map g) ∘ Nat.succ) = fun i => (bl[i]?).map g := rfl
    rw [e, ih]
    rfl
/-- web_of: labels to the labels led to -/
def webP (bl : List BlkR) : List (Key × PyData) := dmk (bl.map fun b => ((Sum.inl (b.label : Int) : Key), PyData.tuple (nD b.tg)))
section
variable {P : Program} {w : World} {K : PySem.W.Frag} {mg : Str → Option Value} {base : Heap}
theorem ok_web_of (T : Txt K mg) : DefOk P w K mg base 2 "web_of" ["function"] (spP K (fun (f : FnR) ds => ds = [f.d] ∧ FnD f) (fun f d => d = .dict (mD (webP f.blocks)))) := by
  refine def_P T.F_web_of T.g_web_of b_web_of sc_web_of (by rintro n _ ⟨rfl, _⟩; rfl) ?_
  rintro X ⟨cdv, A, outer, s, H0, E, hr, rfl⟩ f S0 H ds σ Q C ⟨rfl, fd⟩ hQ
  have r1 : Room 1 (A.deeper (envOfC "web_of" (defScope s_web_of) s.heap.objs.size (He.ga K "web_of") cdv)) := hr
  have hlen := fd.len
  refine ss_retP (S0 := S0) C (DE.imp (ND.de (nd_dcX (own := [("label", 1), ("params", 2), ("ops", 3), ("end", 4)]) (js := [1] ++ ([2] ++ ([3] ++ ([4] ++ [])))) (ds := f.blocks.map BlkR.d) (fun i => (f.blocks[i]?).map fun b => ((Sum.inl (b.label : Int) : Key), PyData.tuple (nD b.tg))) (it_data (y := .tuple (f.blocks.map BlkR.d)) (de_ix (da := .tuple [f.name, .tuple f.tys, f.res, .tuple (f.blocks.map BlkR.d)]) (de_var 0 rfl) de_int rfl) rfl) (by rw [List.length_map]; omega) (by decide) (fun i d DA m hDA hd => ?_) rfl sc_web_of.nd bk_web_of_0)) fun d ⟨m, e, em⟩ => ?_) hQ fun d e => e
  · obtain ⟨b, hb, rfl⟩ : ∃ b, f.blocks[i]? = some b ∧ d = b.d := by
      rw [List.getElem?_map] at hd
      cases q : f.blocks[i]? with
      | none => rw [q] at hd; cases hd
      | some b => rw [q] at hd; cases hd; exact ⟨b, rfl, rfl⟩
    have bd := fd.bl b (List.mem_of_getElem? hb)
    refine ⟨[.d f.d, .d (.int (b.label : Int)), .d b.params, .d (.tuple (b.ops.map OpI.d)), .d b.ending], true, fun s H C cl fp => ?_, fun s H C cl fp => bes_nil, fun _ => ⟨Sum.inl (b.label : Int), .tuple (nD b.tg), by rw [hb]; rfl, fun s H C cl fp => ?_, fun s H C cl fp => ?_⟩, (fun z => by cases z)⟩
    · exact gd_tup (ds := [.int (b.label : Int), b.params, .tuple (b.ops.map OpI.d), b.ending]) rfl (gds_cons (gd_name 1 sc_web_of.nd) (gds_cons (gd_name 2 sc_web_of.nd) (gds_cons (gd_name 3 sc_web_of.nd) (gds_cons (gd_name 4 sc_web_of.nd) gds_nil)))) rfl
    · exact de_var 1 rfl
    · exact de_call (ok_end_labels T) r1 (da_consE (de_var 4 rfl) da_nilE) (pre1 (b.ending, b.tg) ⟨rfl, bd.fin⟩ fun d p => p)
  · rw [e, em, List.length_map, filterMap_some]
    rfl
theorem ok_entry_of (T : Txt K mg) : DefOk P w K mg base 1 "entry_of" ["function"] (spP K (fun (f : FnR) ds => ds = [f.d] ∧ FnD f) (fun f d => ∃ b, f.blocks[0]? = some b ∧ d = .int (b.label : Int))) := by
  refine def_P T.F_entry_of T.g_entry_of b_entry_of sc_entry_of (by rintro n _ ⟨rfl, _⟩; rfl) ?_
  rintro X ⟨cdv, A, outer, s, H0, E, hr, rfl⟩ ⟨nm, tys, rs, blocks, L⟩ S0 H ds σ Q C ⟨rfl, fd⟩ hQ
  cases blocks with
  | nil => exact absurd rfl fd.ne
  | cons b bl =>
    exact ss_retP (S0 := S0) C (de_ix (d := .int (b.label : Int)) (de_ix (d := b.d) (de_ix (da := .tuple [nm, .tuple tys, rs, .tuple (b.d :: bl.map BlkR.d)]) (d := .tuple (b.d :: bl.map BlkR.d)) (de_var 0 rfl) de_int rfl) de_int rfl) de_int rfl) hQ fun d e => ⟨b, rfl, e⟩
end
end K53
/-! text D20 -/
set_option Elab.async false
set_option linter.all false
set_option maxRecDepth 100000
set_option maxHeartbeats 400000
namespace Dl
open PySem PySem.Spec PyProof.Rows L2
section
variable {X : Cx} {W : Wd} {S : List Addr} {G : List (Addr × MO)} {δ : List Sl} {a b : Expr} {pos : Pos} {d : PyData} {k : Key}
theorem Rp.flat {K : PySem.W.Frag} {S S' : List Addr} {H H' : Hp} {d : PyData} {v : V} (f : flat d = true) (r : Rp K S H d v) : Rp K S' H' d v := by
  cases d <;> first | exact r | cases f
/-- {a: b}, b no object -/
theorem nd_disp1 (ha : DE X W S G δ a (fun z => z = kD k)) (hb : DE X W S G δ b (fun z => z = d)) (hf : flat d = true := by rfl) : ND X W S G δ (.Dict [some a] [b] pos) (fun m => m = [(k, d)]) := fun σ H C Q q => by
  refine EE.of (pe_disp (pps_cons pee pee pps_nil) rfl rfl (by simp) (by show 1 ≤ 15; decide)) fun p hp => ?_
  have st0 : Stp [] H (upd H p (.dK [])) := Stp.new hp
  have C0 := C.ext st0
  have hpS : p ∉ S := C.trk.out hp
  have hpM : p ∉ W.M := fun z => hpS (C.ms p z).1
  refine ha σ _ C0 _ fun u H1 da C1 s1 e1 r1 => hb σ H1 C1 _ fun w H2 db C2 s2 e2 r2 => ?_
  subst e1 e2
  have hp2 : H2 p = some (.dK []) := s2 p _ (s1 p _ upd_same hpM) hpM
  refine ⟨hp2, [(k, w)], by rw [kD_v r1]; rfl, by show 1 ≤ 15; decide, ?_⟩
  have em : mergeK [] [(k, w)] = [(k, w)] := rfl
  rw [em]
  have st : Stp W.M H (upd H2 p (.dK [(k, w)])) := fun c o e n => by
    have hc : c ≠ p := ne_of_none e hp
    rw [upd_ne hc]
    exact s2 c o (s1 c o (by rw [upd_ne hc]; exact e) n) n
  have CF : Ctx X.K W S G δ σ (upd H2 p (.dK [(k, w)])) := C.stp st fun dl cl e => by
    obtain ⟨h1, cs, b0, h2, h3, h4⟩ := C2.dealW (X := X) e
    refine ⟨h1, cs, b0, ?_, ?_, h4⟩
    · rw [upd_ne (fun z => hpM (by rw [← z, e]; simp))]; exact h2
    · rw [upd_ne (fun z => hpM (by rw [← z, e]; simp))]; exact h3
  refine q p _ [(k, db)] [(k, w)] CF st hp upd_same rfl ⟨w, [], rfl, r2.flat hf, rfl⟩
end
end Dl
/-! text A24 -/
set_option Elab.async false
set_option linter.all false
set_option maxRecDepth 100000
set_option maxHeartbeats 600000
namespace K53
open PySem PySem.Spec PyProof.Rows L2 Dl
local macro_rules | `(tactic| walk_at "fl") => `(tactic| first | rfl | assumption | (simp only [*]; done) | decide)
theorem dvl_none : ∀ {m : List (Key × PyData)} {k : Key}, k ∉ m.map (·.1) → dvl m k = none
  | [], k, _ => rfl
  | p :: m, k, h => by
    rw [dvl_neg (fun e => h (by rw [← e]; exact List.mem_cons_self))]
    exact dvl_none fun z => h (List.mem_cons_of_mem _ z)
theorem dvl_some : ∀ {m : List (Key × PyData)} {k : Key}, k ∈ m.map (·.1) → (dvl m k).isSome = true
  | [], k, h => by cases h
  | p :: m, k, h => by
    by_cases e : p.1 = k
    · rw [dvl_pos e]; rfl
    · rw [dvl_neg e]
      refine dvl_some ?_
      rcases List.mem_cons.mp h with z | z
      · exact absurd z.symm e
      · exact z
theorem dvl_mem : ∀ {m : List (Key × PyData)} {p : Key × PyData}, (m.map (·.1)).Nodup → p ∈ m → dvl m p.1 = some p.2
  | [], p, _, h => by cases h
  | q :: m, p, hn, h => by
    have hn' := List.nodup_cons.mp hn
    rcases List.mem_cons.mp h with e | e
    · rw [e, dvl_pos rfl]
    · rw [dvl_neg (fun z => hn'.1 (List.mem_map.mpr ⟨p, e, z.symm⟩))]
      exact dvl_mem hn'.2 e
theorem foldl_dpt : ∀ (l m : List (Key × PyData)), ((m ++ l).map (·.1)).Nodup → l.foldl (fun m p => dpt m p.1 p.2) m = m ++ l
  | [], m, _ => by rw [List.append_nil]; rfl
  | p :: l, m, h => by
    have hn : p.1 ∉ m.map (·.1) := by
      intro z
      rw [List.map_append, List.map_cons] at h
      exact (List.nodup_append.mp h).2.2 p.1 z p.1 List.mem_cons_self rfl
    rw [List.foldl_cons, dpt_new _ (dvl_none hn)]
    have e : (m ++ [p]) ++ l = m ++ p :: l := by simp
    rw [show m ++ [(p.1, p.2)] = m ++ [p] from rfl, foldl_dpt l (m ++ [p]) (by rw [e]; exact h), e]
theorem dmk_id {l : List (Key × PyData)} (h : (l.map (·.1)).Nodup) : dmk l = l := by
  unfold dmk
  rw [foldl_dpt l [] (by simpa using h)]
  rfl
theorem web_at {bl : List BlkR} (hn : (bl.map (·.label)).Nodup) {b : BlkR} (hb : b ∈ bl) : dvl (webP bl) (Sum.inl (b.label : Int)) = some (.tuple (nD b.tg)) := by
  have hk : ((bl.map fun b => ((Sum.inl (b.label : Int) : Key), PyData.tuple (nD b.tg))).map (·.1)).Nodup := by
    rw [List.map_map, List.nodup_iff_pairwise_ne, List.pairwise_map]
    rw [List.nodup_iff_pairwise_ne, List.pairwise_map] at hn
    refine hn.imp fun h e => h ?_
    have e : (Sum.inl ((_ : Nat) : Int) : Key) = Sum.inl ((_ : Nat) : Int) := e
    injection e with e
    omega
  unfold webP
  rw [dmk_id hk]
  exact dvl_mem (p := ((Sum.inl (b.label : Int) : Key), PyData.tuple (nD b.tg))) hk (List.mem_map_of_mem hb)
/-- the labels that ways from the entry lead to -/
inductive ReachL (bl : List BlkR) : Nat → Prop
  | base {b : BlkR} : bl[0]? = some b → ReachL bl b.label
  | step {b : BlkR} {t : Nat} : ReachL bl b.label → b ∈ bl → t ∈ b.tg → ReachL bl t
/-- where the search stands: the labels found are b ++ l, of which those of b are told by `don` to be done -/
structure FFI (bl : List BlkR) (B : List Nat) : Prop where
  nd : B.Nodup
  lab : ∀ x ∈ B, x ∈ bl.map (·.label)
  rc : ∀ x ∈ B, ReachL bl x
abbrev kys (m : List (Key × PyData)) (B : List Nat) : Prop := m.map (·.1) = B.map fun n : Nat => (Sum.inl (n : Int) : Key)
theorem kys_in {m : List (Key × PyData)} {B : List Nat} (h : kys m B) (t : Nat) : (dvl m (Sum.inl (t : Int))).isSome = decide (t ∈ B) := by
  by_cases z : t ∈ B
  · rw [dvl_some (by rw [h]; exact List.mem_map_of_mem (f := fun n : Nat => (Sum.inl (n : Int) : Key)) z)]
    simp [z]
  · rw [dvl_none (fun q => by
      rw [h] at q
      obtain ⟨n, hn, e⟩ := List.mem_map.mp q
      have e : (n : Int) = (t : Int) := by injection e
      exact z (by rw [show t = n by omega]; exact hn))]
    simp [z]
theorem nodup_sub_le {l : List Nat} : ∀ {B : List Nat}, B.Nodup → (∀ x ∈ B, x ∈ l) → B.length ≤ l.length := by
  induction l with
  | nil =>
    intro B _ h
    cases B with
    | nil => exact Nat.le_refl _
    | cons b B => exact absurd (h b List.mem_cons_self) (by simp)
  | cons a l ih =>
    intro B hn h
    by_cases hm : a ∈ B
    · have h1 := ih (B := B.erase a) (hn.erase a) fun x hx => by
        rw [hn.mem_erase_iff] at hx
        rcases List.mem_cons.mp (h x hx.2) with e | e
        · exact absurd e hx.1
        · exact e
      rw [List.length_erase_of_mem hm] at h1
      rw [List.length_cons]
      omega
    · have h1 := ih (B := B) hn fun x hx => by
        rcases List.mem_cons.mp (h x hx) with e | e
        · exact absurd hx (by rw [e]; exact hm)
        · exact e
      rw [List.length_cons]
      omega
end K53
/-! text A25 -/
set_option Elab.async false
set_option linter.all false
set_option maxRecDepth 100000
set_option maxHeartbeats 1000000
namespace K53
open PySem PySem.Spec PyProof.Rows L2 Dl
local macro_rules | `(tactic| walk_at "fl") => `(tactic| first | rfl | assumption | (simp only [*]; done) | decide)
theorem nD_inj : ∀ {a b : List Nat}, nD a = nD b → a = b
  | [], [], _ => rfl
  | [], _ :: _, h => by cases h
  | _ :: _, [], h => by cases h
  | x :: a, y :: b, h => by
    have h : PyData.int (x : Int) :: nD a = PyData.int (y : Int) :: nD b := h
    injection h with h1 h2
    injection h1 with h1
    rw [nD_inj h2, show x = y by omega]
section
variable {P : Program} {w : World} {K : PySem.W.Frag} {mg : Str → Option Value} {base : Heap}
abbrev preFF (x : FnR × BlkR) (ds : List PyData) : Prop := ds = [.dict (mD (webP x.1.blocks)), .int (x.2.label : Int), .none] ∧ FnD x.1 ∧ x.1.blocks[0]? = some x.2
abbrev postFF (x : FnR × BlkR) (d : PyData) : Prop := ∃ m B, d = .dict (mD m) ∧ kys m B ∧ FFI x.1.blocks B ∧ ∀ l, ReachL x.1.blocks l → l ∈ B
theorem ok_found_from (T : Txt K mg) : DefOk P w K mg base 1 "found_from" ["web", "start", "without"] (spP K preFF postFF) := by
  refine def_P T.F_found_from T.g_found_from b_found_from sc_found_from (by rintro n _ ⟨rfl, _⟩; rfl) ?_
  rintro X ⟨cdv, A, outer, s, H0, E, hr, rfl⟩ ⟨f, b0⟩ S0 H ds σ Q C ⟨rfl, fd, hb0⟩ hQ
  dsimp only at C fd hb0 hQ
  have hu : (A.deeper (envOfC "found_from" (defScope s_found_from) s.heap.objs.size (He.ga K "found_from") cdv)).units + 1 < cLine := by have := hr.units; omega
  have flen := fd.len
  refine ss_if C (be_eq (de_var 1 rfl) (de_var 2 rfl) rfl) (fun H1 C1 _ e => absurd e (by simp [fV])) (fun H1 C1 _ _ => ss_nil ?_)
  refine ss_parV 3 4 (ps_par rfl sc_found_from.nd rfl rfl (by decide) rfl rfl (pa_cons pee (pa_cons pee pa_nil)) (by rfl)) (nd_disp1 (k := Sum.inl (b0.label : Int)) (de_var 1 rfl) de_non rfl σ H1 C1 _ fun bp H2 m kvs C2 s2 hbp hl em rk => ?_)
  subst em
  have CA := C1.adopt (x := .dct [(Sum.inl (b0.label : Int), PyData.none)]) C2 s2 hbp ⟨kvs, hl, rk⟩
  have hbS : bp ∉ S0 := C1.trk.out hbp
  refine (de_lstE (da_consE (de_var 1 rfl) da_nilE)) σ H2 CA _ fun v H3 d C3 s3 e r3 => ⟨.ref bp, v, rfl, ?_⟩
  subst e
  have C4 := (C3.set 3 (o := some (.ref bp)) (s := .v (.ref bp)) rfl).set 4 (o := some v) (s := .d (.list [.int (b0.label : Int)])) ⟨v, rfl, r3⟩
  refine ss_while (γ := List (Key × PyData) × List Nat × List Nat) (fun g => [(bp, .dct g.1)]) (fun g => [.d (.dict (mD (webP f.blocks))), .d (.int (b0.label : Int)), .d .none, .v (.ref bp), .d (.list (nD g.2.2)), .u, .u, .u]) (fun n g => kys g.1 g.2.1 ∧ FFI f.blocks g.2.1 ∧ b0.label ∈ g.2.1 ∧ (∀ x ∈ g.2.2, x ∈ g.2.1) ∧ g.2.2.length ≤ 6 ∧ (∀ x ∈ g.2.1, x ∉ g.2.2 → ∀ b ∈ f.blocks, b.label = x → ∀ t ∈ b.tg, t ∈ g.2.1) ∧ n = 2 * (f.blocks.length - g.2.1.length) + (if g.2.2.isEmpty then 0 else 1)) (fun g => !g.2.2.isEmpty) _ ([(Sum.inl (b0.label : Int), .none)], [b0.label], [b0.label]) C4 ⟨rfl, ⟨by simp, fun x hx => by rw [List.mem_singleton.mp hx]; exact List.mem_map_of_mem (List.mem_of_getElem? hb0), fun x hx => by rw [List.mem_singleton.mp hx]; exact .base hb0⟩, by simp, fun x hx => hx, by simp, fun x hx hn => absurd hx hn, rfl⟩ ?_ ?_ ?_ PassesOwn.never
  · rintro n ⟨m, B, F⟩ _
    refine (be_gt (de_len T.n_len (de_var 4 rfl).dr rfl) de_int).imp fun k e => ?_
    rw [e, nD_len]
    cases F <;> simp
  · rintro n ⟨m, B, F⟩ σ5 H5 ⟨g1, g2, g3, g4, g5, g6, g7⟩ ht C5
    dsimp only at g1 g2 g3 g4 g5 g6 g7 ht C5
    have hFne : F.isEmpty = false := by
      cases F with
      | nil => cases ht
      | cons a F => rfl
    have hlabn : (f.blocks.map (·.label)).length = f.blocks.length := by rw [List.length_map]
    refine ss_setN 5 C5 ne_nil (fun lp d0 σ6 H6 hlp C6 _ e => ?_) sc_found_from.nd
    subst e
    have hlb : lp ≠ bp := fun e => hlp (by rw [e]; exact List.mem_cons_self)
    refine ss_forI (γ := List (Key × PyData) × List Nat) (js := [6]) (fun g => [(lp, .lst (nD g.2)), (bp, .dct g.1)]) (fun _ => [.d (.dict (mD (webP f.blocks))), .d (.int (b0.label : Int)), .d .none, .v (.ref bp), .d (.list (nD F)), .v (.ref lp), .u, .u]) (fun i g => kys g.1 (B ++ g.2) ∧ FFI f.blocks (B ++ g.2) ∧ ∀ (j x : Nat), j < i → F[j]? = some x → ∀ b ∈ f.blocks, b.label = x → ∀ t ∈ b.tg, t ∈ B ++ g.2) (m, []) (δt := fun _ d => [.d (.dict (mD (webP f.blocks))), .d (.int (b0.label : Int)), .d .none, .v (.ref bp), .d (.list (nD F)), .v (.ref lp), .d d, .u]) (ds := nD F) C6
      (it_data (y := .list (nD F)) (de_var 4 rfl) rfl) ⟨by rw [List.append_nil]; exact g1, by rw [List.append_nil]; exact g2, fun j x h => absurd h (by omega)⟩ (fun W' g d => gd_name 6 sc_found_from.nd) ?_ ?_ rfl PassesOwn.never
    · rintro W1 i d ⟨m1, L1⟩ σ7 H7 hW1 hd ⟨k1, k2, k3⟩ C7
      dsimp only at k1 k2 k3 C7
      obtain ⟨x, hx, rfl⟩ := nD_at hd
      obtain ⟨b, hb, hbx⟩ := List.mem_map.mp (g2.lab x (g4 x (List.mem_of_getElem? hx)))
      have hrx : ReachL f.blocks b.label := by rw [hbx]; exact g2.rc x (g4 x (List.mem_of_getElem? hx))
      have hwa := web_at fd.nd hb
      rw [hbx] at hwa
      refine ss_forI (γ := List (Key × PyData) × List Nat) (js := [7]) (fun g => [(lp, .lst (nD g.2)), (bp, .dct g.1)]) (fun _ => [.d (.dict (mD (webP f.blocks))), .d (.int (b0.label : Int)), .d .none, .v (.ref bp), .d (.list (nD F)), .v (.ref lp), .d (.int (x : Int)), .u]) (fun j g => kys g.1 (B ++ g.2) ∧ FFI f.blocks (B ++ g.2) ∧ (∀ t ∈ L1, t ∈ g.2) ∧ ∀ t ∈ b.tg.take j, t ∈ B ++ g.2) (m1, L1) (δt := fun _ d => [.d (.dict (mD (webP f.blocks))), .d (.int (b0.label : Int)), .d .none, .v (.ref bp), .d (.list (nD F)), .v (.ref lp), .d (.int (x : Int)), .d d]) (ds := nD b.tg) C7
        (it_data (y := .tuple (nD b.tg)) (de_ixD (m := webP f.blocks) (k := Sum.inl (x : Int)) hu (de_var 0 rfl) (de_var 6 rfl) rfl hwa) rfl) ⟨k1, k2, fun t h => h, by simp⟩ (fun W' g d => gd_name 7 sc_found_from.nd) ?_ ?_ rfl PassesOwn.never
      · rintro W2 j d ⟨m2, L2⟩ σ8 H8 hW2 hd2 ⟨q1, q2, q3, q4⟩ C8
        dsimp only at q1 q2 q3 q4 C8
        obtain ⟨t, ht2, rfl⟩ := nD_at hd2
        have htm : t ∈ b.tg := List.mem_of_getElem? ht2
        have htake : b.tg.take (j + 1) = b.tg.take j ++ [t] := by rw [List.take_add_one, ht2]; rfl
        have hBl := nodup_sub_le q2.nd q2.lab
        rw [hlabn] at hBl
        have hml : m2.length = (B ++ L2).length := by
          have := congrArg List.length q1
          rw [List.length_map, List.length_map] at this
          exact this
        rw [List.length_append] at hBl hml
        refine ss_if C8 (be_andE (be_ne (de_var 7 rfl) (de_var 2 rfl) rfl) (fun _ => be_notinD (k := Sum.inl (t : Int)) hu (de_var 7 rfl) rfl (dr_md 3 rfl (List.mem_cons_of_mem _ List.mem_cons_self) (.inl rfl)))) (fun H9 C9 _ e => ?_) (fun H9 C9 _ e => ?_)
        · rw [kys_in q1] at e
          have hnt : t ∉ B ++ L2 := fun z => by simp [z] at e
          refine ss_dput 3 (k := Sum.inl (t : Int)) hu (C9.perm (G' := (bp, .dct m2) :: [(lp, .lst (nD L2))]) (fun z hz => by
            simp only [List.mem_cons, List.not_mem_nil, or_false] at hz ⊢
            exact hz.symm)) rfl (by omega) (fun z hz e => hlb (by rw [List.mem_singleton.mp hz] at e; exact e)) (de_var 6 rfl) (de_var 7 rfl) (fun d σ10 H10 C10 _ e10 => ?_)
          subst e10
          have edp : dpt m2 (Sum.inl (t : Int)) (.int (x : Int)) = m2 ++ [((Sum.inl (t : Int) : Key), PyData.int (x : Int))] := dpt_new _ (by
            have := kys_in q1 t
            cases q : dvl m2 (Sum.inl (t : Int)) with
            | none => rfl
            | some _ => rw [q] at this; simp [hnt] at this)
          rw [edp] at C10
          refine ss_append 5 (C10.perm (G' := (lp, .lst (nD L2)) :: [(bp, .dct (m2 ++ [((Sum.inl (t : Int) : Key), PyData.int (x : Int))]))]) (fun z hz => by
            simp only [List.mem_cons, List.not_mem_nil, or_false] at hz ⊢
            exact hz.symm)) rfl (by rw [nD_len]; omega) (fun z hz e => hlb (by rw [List.mem_singleton.mp hz] at e; exact e.symm)) (de_var 7 rfl) (fun d σ11 H11 C11 _ e11 => ?_)
          subst e11
          rw [nD_snoc] at C11
          refine ss_nil (ss_nil ⟨(m2 ++ [((Sum.inl (t : Int) : Key), PyData.int (x : Int))], L2 ++ [t]), ⟨?_, ⟨?_, fun z hz => ?_, fun z hz => ?_⟩, fun z hz => List.mem_append_left _ (q3 z hz), fun z hz => ?_⟩, C11.u 7⟩)
          · show (m2 ++ [((Sum.inl (t : Int) : Key), PyData.int (x : Int))]).map (·.1) = (B ++ (L2 ++ [t])).map fun n : Nat => (Sum.inl (n : Int) : Key)
            rw [List.map_append, q1, ← List.append_assoc, List.map_append (l₁ := B ++ L2)]
            rfl
          · rw [← List.append_assoc]
            exact List.nodup_append.mpr ⟨q2.nd, by simp, fun a ha c hc e => hnt (by rw [← List.mem_singleton.mp hc, ← e]; exact ha)⟩
          · rw [← List.append_assoc] at hz
            rcases List.mem_append.mp hz with z' | z'
            · exact q2.lab z z'
            · rw [List.mem_singleton.mp z']; exact fd.tg b hb t htm
          · rw [← List.append_assoc] at hz
            rcases List.mem_append.mp hz with z' | z'
            · exact q2.rc z z'
            · rw [List.mem_singleton.mp z']; exact .step hrx hb htm
          · rw [htake] at hz
            rw [← List.append_assoc]
            rcases List.mem_append.mp hz with z' | z'
            · exact List.mem_append_left _ (q4 z z')
            · exact List.mem_append_right _ z'
        · rw [kys_in q1] at e
          have hin : t ∈ B ++ L2 := by
            have hne : decide (fV (.int (t : Int)) = fV .none) = false := by simp [fV]
            rw [hne] at e
            cases q : decide (t ∈ B ++ L2) with
            | true => exact of_decide_eq_true q
            | false => rw [q] at e; cases e
          refine ss_nil (ss_nil ⟨(m2, L2), ⟨q1, q2, q3, fun z hz => ?_⟩, C9.u 7⟩)
          rw [htake] at hz
          rcases List.mem_append.mp hz with z' | z'
          · exact q4 z z'
          · rw [List.mem_singleton.mp z']; exact hin
      · rintro ⟨m2, L2⟩ σ8 H8 ⟨q1, q2, q3, q4⟩ C8
        dsimp only at q1 q2 q3 q4 C8
        rw [nD_len, List.take_length] at q4
        refine ss_nil ⟨(m2, L2), ⟨q1, q2, fun j y hj hy b' hb' hby t ht' => ?_⟩, C8.u 6⟩
        by_cases hji : j < i
        · rcases List.mem_append.mp (k3 j y hji hy b' hb' hby t ht') with z | z
          · exact List.mem_append_left _ z
          · exact List.mem_append_right _ (q3 t z)
        · have hji : j = i := by omega
          subst hji
          rw [hx] at hy
          cases hy
          have hw2 := web_at fd.nd hb'
          rw [hby, hwa] at hw2
          have hw2 : nD b.tg = nD b'.tg := by
            injection hw2 with hw2
            injection hw2
          rw [← nD_inj hw2] at ht'
          exact q4 t ht'
    · rintro ⟨m1, L1⟩ σ7 H7 ⟨k1, k2, k3⟩ C7
      dsimp only at k1 k2 k3 C7
      rw [nD_len] at k3
      have C8 := C7.solid 5 hlp (fun z hz => by rw [List.mem_singleton.mp hz]; exact List.mem_cons_self) (fun a ha => List.mem_cons_of_mem _ (C1.ms a ha).1) rfl
      refine ss_set 4 C8 (de_var 5 rfl) (fun d σ8 H8 C9 _ e => ?_) sc_found_from.nd
      subst e
      have hBl := nodup_sub_le k2.nd k2.lab
      rw [hlabn, List.length_append] at hBl
      refine ss_nil ⟨_, (m1, B ++ L1, L1), ?_, ⟨k1, k2, List.mem_append_left _ g3, fun x hx => List.mem_append_right _ hx, by show L1.length ≤ 6; omega, fun x hx hn b hb hbx t ht2 => ?_, rfl⟩, C9.u 5⟩
      · rw [g7, hFne]
        show 2 * (f.blocks.length - (B ++ L1).length) + (if L1.isEmpty = true then 0 else 1) < 2 * (f.blocks.length - B.length) + (if false = true then 0 else 1)
        rw [List.length_append]
        cases L1 with
        | nil => simp
        | cons a L1 =>
          simp only [List.length_cons, List.isEmpty_cons, Bool.false_eq_true, if_false] at hBl ⊢
          omega
      · have hxB : x ∈ B := by
          rcases List.mem_append.mp hx with z | z
          · exact z
          · exact absurd z hn
        by_cases hxF : x ∈ F
        · obtain ⟨j, hj⟩ := List.mem_iff_getElem?.mp hxF
          exact k3 j x (List.getElem?_eq_some_iff.mp hj).1 hj b hb hbx t ht2
        · exact List.mem_append_left _ (g6 x hxB hxF b hb hbx t ht2)
  · rintro n ⟨m, B, F⟩ σ5 H5 ⟨g1, g2, g3, g4, g5, g6, g7⟩ ht C5
    dsimp only at g1 g2 g3 g4 g5 g6 g7 ht C5
    have hF : F = [] := by
      cases F with
      | nil => rfl
      | cons a F => cases ht
    subst hF
    have C6 := C5.solidD 3 hbS (by simp) (fun a ha => (C1.ms a ha).1) rfl
    refine ss_retP (S0 := S0) C6 (de_var 3 rfl) hQ fun d e => ⟨m, B, e, g1, g2, fun l hl => ?_⟩
    induction hl with
    | base h => rw [hb0] at h; cases h; exact g3
    | step h1 h2 h3 ih => exact g6 _ ih (by simp) _ h2 rfl _ h3
end
end K53
/-! text A26 -/
set_option Elab.async false
set_option linter.all false
set_option maxRecDepth 100000
set_option maxHeartbeats 600000
namespace K53
open PySem PySem.Spec PyProof.Rows L2 Dl
local macro_rules | `(tactic| walk_at "fl") => `(tactic| first | rfl | assumption | (simp only [*]; done) | decide)
section
variable {X : Cx} {W : Wd} {S : List Addr} {G : List (Addr × MO)} {δ : List Sl} {e : Expr} {pos : Pos}
theorem ne_sortedDP {p : Pos} {Pk : List Int → Prop} (hc : X.calm = true) (hm : X.mg "sorted" = none) (ha : DR X W S G δ e (fun z => ∃ (m : List (Key × PyData)) (ks : List Int), z = .dict (mD m) ∧ m.map (·.1) = ks.map Sum.inl ∧ ks.length < 64 ∧ Pk ks)) (hg : Gl X "sorted" := by rfl) (na : starEach [e] X.env = (false, eval e X.env) :: starEach [] X.env := by exact star_cons rfl) :
    NE X W S G δ (.Call (.Name "sorted" p) [e] [] pos) (fun es => ∃ ks ys : List Int, Pk ks ∧ es = ys.map .int ∧ ys.Perm ks ∧ ys.Pairwise (· ≤ ·)) := fun σ H C Q q =>
  EE.of (pe_callB (call_sortedDI hc) hg hm PyProof.Rows.boot_sorted (pa_cons pee pa_nil na) (he := na)) (ha σ H C _ fun v H1 d C1 s1 ⟨m, ks, e1, hk, hl, pk⟩ rv => by
    subst e1
    obtain ⟨p, kvs, rfl, hp, hrd, rk⟩ := rp_dict rv
    refine ⟨p, kvs, ks, rfl, hrd, by rw [rk.keys, hk], hl, fun ys l h1 h2 hl => ?_⟩
    have st : Stp [] H1 (upd H1 l (.lst (ys.map V.int))) := Stp.new hl
    exact q l _ _ _ (C1.ext st) (s1.trans st.nil) (C.back C1 s1 hl) upd_same ⟨ks, ys, pk, rfl, h1, h2⟩ (mv_new hl (Rps.of_ints ys)))
end
section
variable {P : Program} {w : World} {K : PySem.W.Frag} {mg : Str → Option Value} {base : Heap}
theorem ok_reached_labels (T : Txt K mg) : DefOk P w K mg base 3 "reached_labels" ["function"] (spP K (fun (f : FnR) ds => ds = [f.d] ∧ FnD f) (fun f d => ∃ R : List Nat, d = .tuple (nD R) ∧ R.length ≤ 6 ∧ ∀ l, l ∈ R ↔ ReachL f.blocks l)) := by
  refine def_P T.F_reached_labels T.g_reached_labels b_reached_labels sc_reached_labels (by rintro n _ ⟨rfl, _⟩; rfl) ?_
  rintro X ⟨cdv, A, outer, s, H0, E, hr, rfl⟩ f S0 H ds σ Q C ⟨rfl, fd⟩ hQ
  have r2 : Room 2 (A.deeper (envOfC "reached_labels" (defScope s_reached_labels) s.heap.objs.size (He.ga K "reached_labels") cdv)) := hr
  have r1 : Room 1 (A.deeper (envOfC "reached_labels" (defScope s_reached_labels) s.heap.objs.size (He.ga K "reached_labels") cdv)) := hr.mono (by decide)
  obtain ⟨b0, hb0⟩ : ∃ b0, f.blocks[0]? = some b0 := by
    cases q : f.blocks with
    | nil => exact absurd q fd.ne
    | cons b bl => exact ⟨b, rfl⟩
  refine ss_retP (S0 := S0) C (de_tupleOf (Ps := fun es => ∃ ks ys : List Int, (∃ B : List Nat, ks = B.map (fun n : Nat => (n : Int)) ∧ FFI f.blocks B ∧ ∀ l, ReachL f.blocks l → l ∈ B) ∧ es = ys.map .int ∧ ys.Perm ks ∧ ys.Pairwise (· ≤ ·)) T.n_tuple ((NE.de (ne_sortedDP (Pk := fun ks => ∃ B : List Nat, ks = B.map (fun n : Nat => (n : Int)) ∧ FFI f.blocks B ∧ ∀ l, ReachL f.blocks l → l ∈ B) rfl T.n_sorted (DE.dr (de_call (ok_found_from T) r1 (da_consE (de_call (ok_web_of T) r2 (da_consE (de_var 0 rfl) da_nilE) (pre1 f ⟨rfl, fd⟩ fun d p => p)) (da_consE (de_call (P := fun d => d = .int (b0.label : Int)) (ok_entry_of T) r1 (da_consE (de_var 0 rfl) da_nilE) (pre1 f ⟨rfl, fd⟩ fun d ⟨b, h, e⟩ => by rw [hb0] at h; cases h; exact e)) (da_consE de_non da_nilE))) (pre1 (f, b0) ⟨rfl, fd, hb0⟩ fun d ⟨m, B, e, hk, hf, hc⟩ => ?_))))).imp fun d ⟨l, e, p⟩ => ⟨l, by rw [e]; rfl, p⟩)) hQ ?_
  · refine ⟨m, B.map (fun n : Nat => (n : Int)), e, by rw [hk, List.map_map]; rfl, ?_, B, rfl, hf, hc⟩
    have h1 := nodup_sub_le hf.nd hf.lab
    have h2 := fd.len
    rw [List.length_map] at h1
    have h1 : B.length ≤ f.blocks.length := h1
    rw [List.length_map]
    omega
  · rintro d ⟨es, e, ks, ys, ⟨B, rfl, hf, hc⟩, rfl, hp, _⟩
    have hys : ys = (ys.map Int.toNat).map (fun n : Nat => (n : Int)) := by
      rw [List.map_map]
      conv => lhs; rw [← List.map_id ys]
      refine List.map_congr_left fun z hz => ?_
      obtain ⟨n, _, e⟩ := List.mem_map.mp (hp.mem_iff.mp hz)
      show z = ((z.toNat : Nat) : Int)
      omega
    refine ⟨ys.map Int.toNat, by rw [e]; conv => lhs; rw [hys]
                                 rw [List.map_map]; rfl, ?_, fun l => ?_⟩
    · rw [List.length_map, hp.length_eq, List.length_map]
      have := nodup_sub_le hf.nd hf.lab
      rw [List.length_map] at this
      have := fd.len
      omega
    · constructor
      · intro hl
        obtain ⟨z, hz, ez⟩ := List.mem_map.mp hl
        obtain ⟨n, hn, en⟩ := List.mem_map.mp (hp.mem_iff.mp hz)
        have : l = n := by omega
        rw [this]
        exact hf.rc n hn
      · intro hl
        exact List.mem_map.mpr ⟨(l : Int), hp.mem_iff.mpr (List.mem_map.mpr ⟨l, hc l hl, rfl⟩), by simp⟩
end
end K53
/-! text D21 -/
set_option Elab.async false
set_option linter.all false
set_option maxRecDepth 100000
set_option maxHeartbeats 1000000
namespace Dl
open PySem PySem.Spec PyProof.Rows L2
section
variable {X : Cx} {W : Wd} {S : List Addr} {G : List (Addr × MO)} {δ : List Sl} {a b c e : Expr} {es : List Expr} {P Pa Pb : PyData → Prop} {pos : Pos} {d x y : PyData} {ds : List PyData} {m : List (Key × PyData)} {k : Key}
/-! xs.index(y), flat data -/
theorem de_index {j : Nat} {z : PyData} {ap cp : Pos} (ha : DE X W S G δ a (fun v => v = .list ds)) (he : DE X W S G δ e (fun v => v = x)) (hx : flat x = true) (hs : ds.all flat = true) (hz : ds[j]? = some z) (h1 : eqV (fV z) (fV x) = true) (h2 : ∀ (i : Nat) z', i < j → ds[i]? = some z' → eqV (fV z') (fV x) = false)
    (hbase : attributeBase a "index" X.env (eval a X.env) = eval a X.env := by rfl) (hse : nStar e = true := by rfl)
    (hfew : ((backTo cp (starEach [e] X.env)).all (fun x => !x.1) && (backToKw cp (keywordEach [] X.env)).all (fun x => x.1.isSome) && decide (([e] : List Expr).length + ([] : List Keyword).length + (if ([] : List Keyword).isEmpty then 0 else 1) < 30)) = true := by rfl)
    (hline : (ap.endLine == cp.line) = true := by rfl) : DE X W S G δ (.Call (.Attribute a "index" ap) [e] [] cp) (fun v => v = .int (j : Int)) := fun σ H C Q q => by
  refine EE.of (pe_bm PySem.F.plainAttrs_list PySem.F.slot_list_index PySem.F.type_list_index mt_index pee (pa_cons pee pa_nil (star_cons hse)) hbase hfew hline (star_cons hse) rfl) (ha σ H C _ fun v H1 d C1 s1 e1 rv => ?_)
  subst e1
  have rv0 := rv
  obtain ⟨p, xs, rfl, ⟨n, hp⟩, rs⟩ := rv
  refine ⟨.inl ⟨rfl, xs, .inl (.inl hp)⟩, he σ H1 C1 _ fun u H2 d C2 s2 e2 ru => ?_⟩
  subst e2
  obtain ⟨p', xs', e3, ⟨_, hp2⟩, rs2⟩ := C1.mv s2 rv0
  cases e3
  have ex := fVs_eq hs rs2
  have eu := fV_eq hx ru
  refine ⟨p, xs', u, j, fV z, rfl, rfl, .inl (.inl hp2), by rw [eu]; exact fV_flat hx, by rw [ex]; exact fVs_flat hs, by rw [ex, List.getElem?_map, hz]; rfl, by rw [eu]; exact h1, fun i z' hi hz' => ?_, q _ H2 _ C2 (s1.trans s2) rfl rfl⟩
  rw [ex, List.getElem?_map] at hz'
  cases q2 : ds[i]? with
  | none => rw [q2] at hz'; cases hz'
  | some z2 =>
    rw [q2] at hz'
    cases hz'
    rw [eu]; exact h2 i z2 hi q2
/-! max(.., default=d) -/
theorem ints_alike (ns : List Int) : PySem.W.AlikeAll (ns.map .int) := by
  refine ⟨fun x hx y hy => ?_, fun x hx => ?_⟩
  · obtain ⟨_, _, rfl⟩ := List.mem_map.mp hx
    obtain ⟨_, _, rfl⟩ := List.mem_map.mp hy
    rfl
  · obtain ⟨_, _, rfl⟩ := List.mem_map.mp hx
    exact fun z => by cases z
theorem ints_depth : ∀ ns : List Int, PyData.depthAll (ns.map .int) ≤ 1
  | [] => by simp [PyData.depthAll]
  | n :: ns => by
    have ih := ints_depth ns
    simp only [List.map_cons, PyData.depthAll, PyData.depth]
    omega
theorem foldl_max_ge (n : Int) : ∀ (ns : List Int), n ≤ ns.foldl max n ∧ ∀ y ∈ ns, y ≤ ns.foldl max n := fun ns => by
  induction ns generalizing n with
  | nil => exact ⟨Int.le_refl _, fun y h => by cases h⟩
  | cons k ns ih =>
    obtain ⟨h1, h2⟩ := ih (max n k)
    rw [List.foldl_cons]
    refine ⟨by omega, fun y hy => ?_⟩
    rcases List.mem_cons.mp hy with rfl | hy
    · omega
    · exact h2 y hy
theorem foldl_max_mem (n : Int) : ∀ (ns : List Int), ns.foldl max n ∈ n :: ns := fun ns => by
  induction ns generalizing n with
  | nil => simp
  | cons k ns ih =>
    rw [List.foldl_cons]
    have h := ih (max n k)
    rcases List.mem_cons.mp h with h | h
    · rw [h]
      by_cases z : n ≤ k
      · rw [Int.max_eq_right z]; simp
      · rw [Int.max_eq_left (by omega)]; simp
    · exact List.mem_cons_of_mem _ (List.mem_cons_of_mem _ h)
def rMaxD (K : PySem.W.Frag) : List V → List V → Hp → VK → Prop := fun vs zs H Q => ∃ (a : Addr) (ns : List Int) (dv : V), vs = [V.ref a] ∧ zs = [dv] ∧ SqL K H a (ns.map V.int) ∧ (ns = [] → Q dv H) ∧ ∀ i, i ∈ ns → (∀ y ∈ ns, y ≤ i) → Q (.int i) H
theorem cr_maxD (hc : X.calm = true) (hu : X.A.units + 2 < cLine) : CallRK X (.builtin "max") [Str.ofString "default"] (rMaxD X.K) := by
  intro pins s σ H vs zs us ws Q I r rz h
  obtain ⟨a, ns, dv, rfl, rfl, hs, h0, h1⟩ := h
  obtain ⟨w1, rfl, e1⟩ := vals1 rz
  obtain ⟨its, rv, hl, hz⟩ := I.list hs
  rw [Vals.ref1 r]
  have hd : DpAll X.K H (ns.map V.int) (ns.map PyData.int) := by
    clear h0 h1 hs rv hl hz
    induction ns with
    | nil => exact .nil
    | cons n ns ih => exact .cons (.int n) ih
  obtain ⟨as, ra⟩ := Dp.readsAll I _ _ its hd rv
  have hdep := ints_depth ns
  refine PySem.W.max_list_default (vs := its.toArray) (xs := ns.map .int) (as := as) (d := w1) (I.ok.hd hc) hl.isList (by simpa using ra) (ints_alike ns) (by omega) (fun e h' tk hk => ?_) fun y ys i v h' tk bs e _ rd hk => ?_
  · have e : ns = [] := by simpa using e
    exact ⟨dv, H, I.kept (t' := tk) hk, e1, h0 e⟩
  · cases ns with
    | nil => cases e
    | cons n ns =>
      rw [List.map_cons] at e
      injection e with e2 e3
      subst e2 e3
      rw [PySem.W.maxD_ints] at rd
      have hge := foldl_max_ge n ns
      cases rd
      exact ⟨.int (ns.foldl max n), H, I.kept (t' := tk) hk, ⟨_, rfl⟩, h1 _ (foldl_max_mem n ns) fun y hy => by
        rcases List.mem_cons.mp hy with rfl | hy
        · exact hge.1
        · exact hge.2 y hy⟩
theorem de_maxD {p : Pos} {ns : List Int} {i0 : Int} {kp : Pos} (hc : X.calm = true) (hu : X.A.units + 2 < cLine) (hm : X.mg "max" = none) (ha : DE X W S G δ e (fun v => v = .list (ns.map .int))) (hb : DE X W S G δ b (fun v => v = .int i0)) (hg : Gl X "max" := by rfl) (hse : nStar e = true := by rfl)
    (hall : (backToKw pos (keywordEach [⟨some "default", b, kp⟩] X.env)).all (·.1.isSome) = true := by rfl) (hnone : (backToKw pos (keywordEach [⟨some "default", b, kp⟩] X.env)).any (·.1.isNone) = false := by rfl) (hks : (backToKw pos (keywordEach [⟨some "default", b, kp⟩] X.env)).filterMap (·.1) = [Str.ofString "default"] := by rfl) :
    DE X W S G δ (.Call (.Name "max" p) [e] [⟨some "default", b, kp⟩] pos) (fun v => ∃ i, v = .int i ∧ (ns = [] → i = i0) ∧ (ns ≠ [] → i ∈ ns) ∧ ∀ y ∈ ns, y ≤ i) := fun σ H C Q q => by
  refine EE.of (pe_callBK (cr_maxD hc hu) hg hm (by decide +kernel) (pa_cons pee pa_nil (star_cons hse)) (pk_cons pee pk_nil) (he := ?_) (hpl := ?_) (hall := hall) (hnone := hnone) (hks := hks)) (ha σ H C _ fun v H1 d C1 s1 e1 rv => hb σ H1 C1 _ fun w H2 d2 C2 s2 e2 rw2 => ?_)
  · rw [star_cons hse]; rfl
  · rw [star_cons hse]; rfl
  · subst e1 e2
    have rw2 : w = .int i0 := rw2
    subst rw2
    obtain ⟨a, xs, rfl, ⟨n, hp⟩, rs⟩ := C1.mv s2 rv
    rw [rs.ints] at hp
    refine ⟨a, ns, .int i0, rfl, rfl, .inl (.inl hp), fun e => q _ H2 (.int i0) C2 (s1.trans s2) ⟨i0, rfl, (fun _ => rfl), (fun h => absurd e h), (fun y hy => by rw [e] at hy; cases hy)⟩ rfl, fun i h1 h2 => q _ H2 (.int i) C2 (s1.trans s2) ⟨i, rfl, (fun h => by rw [h] at h1; cases h1), (fun _ => h1), h2⟩ rfl⟩
/-! sum(d.values()) -/
theorem de_sumValsP {p ap cp : Pos} {Pn : List Int → Prop} (hc : X.calm = true) (hm : X.mg "sum" = none) (ha : DE X W S G δ e (fun v => ∃ (m : List (Key × PyData)) (ns : List Int), v = .dict (mD m) ∧ m.map (·.2) = ns.map .int ∧ Pn ns)) (hg : Gl X "sum" := by rfl) (hbase : attributeBase e "values" X.env (eval e X.env) = eval e X.env := by rfl) (hline : (ap.endLine == cp.line) = true := by rfl) :
    DE X W S G δ (.Call (.Name "sum" p) [.Call (.Attribute e "values" ap) [] [] cp] [] pos) (fun v => ∃ ns : List Int, v = .int ns.sum ∧ Pn ns) := fun σ H C Q q => by
  intro pins s I
  refine wpAny_Call_Name_kw (ld_blt I hg hm (show bootBuiltins "sum" = some (.builtin "sum") by decide +kernel) (PyProof.Rows.callWith_builtin1 ?_ (star_cons rfl) rfl))
  rw [star_cons (e := .Call (.Attribute e "values" ap) [] [] cp) rfl]
  show wpAny _ _ (spliced ((false, eval (.Call (.Attribute e "values" ap) [] [] cp) X.env) :: backTo pos (starEach [] X.env))) _ _ s
  refine Calls.spliced_cons ?_
  refine wpAny_Call_method (T := "dict") (id := "dict.values") hbase rfl hline F.plainAttrs_dict F.slot_dict_values F.type_dict_values (thn (ha σ H C (fun v H1 => Dl.Ctx X.K W S G δ σ H1 ∧ Stp W.M H H1 ∧ ∃ (m : List (Key × PyData)) (ns : List Int), m.map (·.2) = ns.map .int ∧ Pn ns ∧ Rp X.K S H1 (.dict (mD m)) v) (fun v H1 d C1 s1 ⟨m, ns, e1, hn, pn⟩ rv => by
    subst e1
    exact ⟨C1, s1, m, ns, hn, pn, rv⟩) pins s I) fun u s1 ⟨v, H1, I1, r1, C1, st1, m, ns, hn, pn, rv⟩ => ?_)
  obtain ⟨a, kvs, rfl, hp, hrd, rk⟩ := rp_dict rv
  obtain rfl : u = Value.ref a := r1
  obtain ⟨z, lo, ws, rel, dd⟩ := dk_rd I1.hok hrd
  refine ⟨dd.typeIs, dd.mapOf.noDict, ?_⟩
  have I2 : Inv X pins σ H1 { s1 with heap := s1.heap.push { cls := .type "dict_values", data := .fields #[.ref a] } } := I1.kept (t' := s1.toks) fun b ob q => Heap.get?_push_of_some _ q
  refine method_meetsIn F.slot_dict_values F.entry_dict_values rfl (PySem.evalArgs_none ⟨rfl, dd.typeIs, F.args_dict_values_1 _, _, meets_dict_values (mixKind X.prog X.w) a lo, ⟨ws, dd⟩, ?_⟩)
  refine Calls.spliced_nil ?_
  have hview : (s1.heap.push { cls := .type "dict_values", data := .fields #[.ref a] }).IsValuesView s1.heap.objs.size a := ⟨_, Heap.get?_push_size _ rfl, rfl, rfl⟩
  obtain ⟨ep, hat⟩ := dd.dictAt
  have hvals : ws.map (·.2) = ws.map (·.2) := rfl
  have hl : kvs.length = ws.length := Paired.length rel
  have hml : m.length = kvs.length := rk.len.symm
  have hnl : ns.length = m.length := by
    have := congrArg List.length hn
    rw [List.length_map, List.length_map] at this
    exact this.symm
  refine call_sum_walkAnyS (wpAny_pyIter_values (d := a) (knd := mixKind X.prog X.w) hview (hat.push _) ?_)
  refine ⟨_, _, _, _, ws.length, _, _, fun i => ns.getD i 0, rfl, (Walks.dictValues (prog := X.prog) (w := X.w) (A := X.A.in1) (show X.A.in1.handled = none from I1.ok.hd hc) (s1.heap.push { cls := .type "dict_values", data := .fields #[.ref a] }).objs.size a (Nat.ne_of_lt (Nat.lt_trans hat.lt_size (by rw [Heap.size_push]; exact Nat.lt_succ_self _))) ws ep).toS, ⟨⟨_, Heap.get?_push_size _ rfl, rfl, rfl⟩, (hat.push _).push _⟩, fun b hb => ?_, fun i v ⟨k, hv⟩ => ?_, fun s' t' hm' => ?_⟩
  · show b < ((s1.heap.push _).push _).objs.size
    rw [Heap.size_push, Heap.size_push]
    have := hat.lt_size
    simp only [List.mem_cons, List.not_mem_nil, or_false] at hb
    rcases hb with rfl | rfl
    · rw [Heap.size_push]; exact Nat.lt_succ_self _
    · exact Nat.lt_succ_of_lt (Nat.lt_succ_of_lt this)
  · have hi : i < ws.length := (List.getElem?_eq_some_iff.mp hv).1
    obtain ⟨pr, hpr⟩ : ∃ pr, kvs[i]? = some pr := ⟨kvs[i]'(by omega), List.getElem?_eq_getElem (by omega)⟩
    obtain ⟨u2, hu2, ru⟩ := kv_get rel (show kvs[i]? = some (pr.1, pr.2) from hpr)
    rw [hv] at hu2
    cases hu2
    obtain ⟨d, hd, rd⟩ := rk.at hpr
    have e1 : (m.map (·.2))[i]? = some d := by rw [List.getElem?_map, hd]; rfl
    rw [hn, List.getElem?_map] at e1
    cases q3 : ns[i]? with
    | none => rw [q3] at e1; cases e1
    | some n =>
      rw [q3] at e1
      cases e1
      have rd : pr.2 = .int n := rd
      rw [rd] at ru
      obtain ⟨t, ht⟩ := ru
      exact ⟨t, by rw [ht]; simp [List.getD, q3]⟩
  · have hk : ∀ b o, s1.heap.get? b = some o → s'.heap.get? b = some o := fun b o e => hm'.heap b o (fun hI => by
      have := Heap.lt_size e
      rw [List.mem_singleton.mp hI, Heap.size_push] at this
      exact absurd this (Nat.not_lt_of_le (Nat.le_succ _))) (Heap.get?_push_of_some _ (Heap.get?_push_of_some _ e))
    rw [Moved.eq_with hm']
    have es : preSum (fun i => ns.getD i 0) ws.length = ns.sum := by
      rw [PyProof.Rows.preSum_getD, List.take_of_length_le (by omega)]
    rw [es]
    exact ⟨.int ns.sum, H1, I1.kept (t' := s'.toks) hk, ⟨t', rfl⟩, q _ H1 _ C1 st1 ⟨ns, rfl, pn⟩ rfl⟩
end
end Dl
/-! text D22 -/
set_option Elab.async false
set_option linter.all false
set_option maxRecDepth 100000
set_option maxHeartbeats 1000000
namespace Dl
open PySem PySem.Spec PyProof.Rows L2
section
variable {X : Cx} {W : Wd} {S : List Addr} {G : List (Addr × MO)} {δ : List Sl} {a b c e f : Expr} {es : List Expr} {P Pa Pb : PyData → Prop} {pos : Pos} {d x y : PyData} {ds : List PyData} {m : List (Key × PyData)} {k : Key} {D : Ends} {r : List Stmt} {σ : L2.St} {H : Hp}
/-! [elt for tg in data if .. for tg1 in data1] -/
theorem pe_lc2B {elt tg iter tg1 iter1 : Expr} {ifs : List Expr} {scope : Scope} {own : List (Str × Nat)} {vs1 : List Nat} {wi : TI} (hc : X.calm = true) (hN : X.N.Nodup) (hi : PI X tg iter wi) (ok : BlkOk X.N X.env.scope scope own) (hv : ∀ i ∈ vs1, i ∈ own.map (·.2)) (hs : ∀ x, foldedSetIterable iter X.env x = pure x := by intro _; rfl) (hs1 : ∀ env x, foldedSetIterable iter1 env x = pure x := by intro _ _; rfl) :
    PE X (.ListComp elt [⟨tg, iter, ifs, 0⟩, ⟨tg1, iter1, [], 0⟩] scope pos) (tLc2 wi (bG X scope tg) (bT X scope ifs) (fun σ H R => ∀ (s : Shared) (H0 : Hp) (C : Addr) (cl : List (Str × Addr)) (fp : List Addr), IEx (blkX X scope s H0 C cl fp) tg1 iter1 σ H R) (bG X scope tg1) (bT X scope []) (bE X scope elt) (own.map (·.2)) vs1) :=
  pe_lc2 hc hN hi ok hv (fun s H C cl fp => ⟨fun pins s' σ H' v u Q I r h => h s H C cl fp pins s' u I r⟩) (fun s H C cl fp => ⟨fun pins s' σ H' Q I h => h s H C cl fp pins s' I⟩) (fun s H C cl fp => ⟨fun pins s' σ H' R I h => h s H C cl fp pins s' I⟩) (fun s H C cl fp => ⟨fun pins s' σ H' v u Q I r h => h s H C cl fp pins s' u I r⟩) (fun s H C cl fp => ⟨fun pins s' σ H' Q I h => h s H C cl fp pins s' I⟩) (fun s H C cl fp => ⟨fun pins s' σ H' Q I h => h s H C cl fp pins s' I⟩) hs hs1
theorem flat_succ {out : Nat → List PyData} (i : Nat) : (List.range (i + 1)).flatMap out = (List.range i).flatMap out ++ out i := by
  rw [List.range_succ, List.flatMap_append]; simp
theorem flat_le {out : Nat → List PyData} {i n : Nat} (h : i ≤ n) : ((List.range i).flatMap out).length ≤ ((List.range n).flatMap out).length := by
  induction n with
  | zero => rw [show i = 0 by omega]; exact Nat.le_refl _
  | succ n ih =>
    by_cases z : i = n + 1
    · rw [z]; exact Nat.le_refl _
    · rw [flat_succ n, List.length_append]
      have := ih (by omega)
      omega
theorem lc2D {own : List (Str × Nat)} {vs1 js js1 : List Nat} {scope : Scope} {elt tg iter tg1 iter1 : Expr} {ifs : List Expr} (out : Nat → List PyData) (he : IT X W S G δ tg iter ds) (hlen : ((List.range ds.length).flatMap out).length ≤ 999) (hj : ∀ j ∈ js, j ∈ own.map (·.2)) (hj1 : ∀ j ∈ js1, j ∈ vs1) (hv : ∀ i ∈ vs1, i ∈ own.map (·.2))
    (ht : ∀ i d DA, DA ∉ S → ds[i]? = some d → ∃ δ' t, (∀ acc s H C cl fp, GD (blkX X scope s H C cl fp) W (DA :: S) ((DA, .lst acc) :: G) js tg (wipeD δ (own.map (·.2))) d δ') ∧ (∀ acc s H C cl fp, BEs (blkX X scope s H C cl fp) W (DA :: S) ((DA, .lst acc) :: G) δ' ifs (fun b => b = t)) ∧ (t = false → out i = []) ∧
      (t = true → ∃ ds1 : List PyData, ds1.length = (out i).length ∧ (∀ acc s H C cl fp, IT (blkX X scope s H C cl fp) W (DA :: S) ((DA, .lst acc) :: G) δ' tg1 iter1 ds1) ∧ ∀ (j : Nat) d1, ds1[j]? = some d1 → ∃ δ'' e, (out i)[j]? = some e ∧ (∀ acc s H C cl fp, GD (blkX X scope s H C cl fp) W (DA :: S) ((DA, .lst acc) :: G) js1 tg1 (wipeD δ' vs1) d1 δ'') ∧ ∀ acc s H C cl fp, DE (blkX X scope s H C cl fp) W (DA :: S) ((DA, .lst acc) :: G) δ'' elt (fun z => z = e)))
    (σ : L2.St) (H : Hp) (C : Dl.Ctx X.K W S G δ σ H) (Q : VK) (q : ∀ p H' ds_1 xs, Dl.Ctx X.K W S G δ σ H' → Stp W.M H H' → H p = none → p ∉ S → H' p = some (.lst xs) → ds_1 = (List.range ds.length).flatMap out → Rps X.K (p :: S) H' ds_1 xs → Q (.ref p) H') :
    tLc2 (IEx X tg iter) (bG X scope tg) (bT X scope ifs) (fun σ H R => ∀ (s : Shared) (H0 : Hp) (C : Addr) (cl : List (Str × Addr)) (fp : List Addr), IEx (blkX X scope s H0 C cl fp) tg1 iter1 σ H R) (bG X scope tg1) (bT X scope []) (bE X scope elt) (own.map (·.2)) vs1 σ H Q := by
  refine he σ H C _ fun J H1 C1 s1 hw DA hDA => ?_
  obtain ⟨Gd, Y, hw, hG, hY⟩ := hw
  have hDS : DA ∉ S := C1.trk.out hDA
  have hnG : ∀ q ∈ G, q.1 ≠ DA := fun q hq z => hDS (by rw [← z]; exact (C1.objs q hq).2.1)
  have C1' : Dl.Ctx X.K W (DA :: S) ((DA, .lst []) :: G) δ σ (upd H1 DA (.lst [])) := C1.vol hDA ⟨[], upd_same, rfl⟩
  have toS : ∀ {H' : Hp}, Stp (DA :: W.M) (upd H1 DA (.lst [])) H' → Stp S H1 H' := fun {H'} s b o e n => by
    have hb : b ≠ DA := ne_of_none e hDA
    refine s b o (by rw [upd_ne hb]; exact e) fun z => ?_
    rcases List.mem_cons.mp z with z | z
    · exact hb z
    · exact n (C1.ms b z).1
  have Pv0 := C1'
  generalize hPv : (fun (i : Nat) (H' : Hp) => Dl.Ctx X.K W (DA :: S) ((DA, .lst ((List.range i).flatMap out)) :: G) δ σ H' ∧ Stp (DA :: W.M) (upd H1 DA (.lst [])) H') = Pv
  have mk : ∀ i H', Dl.Ctx X.K W (DA :: S) ((DA, .lst ((List.range i).flatMap out)) :: G) δ σ H' → Stp (DA :: W.M) (upd H1 DA (.lst [])) H' → Pv i H' := fun i H' a b => by rw [← hPv]; exact ⟨a, b⟩
  have un : ∀ i H', Pv i H' → Dl.Ctx X.K W (DA :: S) ((DA, .lst ((List.range i).flatMap out)) :: G) δ σ H' ∧ Stp (DA :: W.M) (upd H1 DA (.lst [])) H' := fun i H' a => by rw [← hPv] at a; exact a
  refine ⟨fun i m H => m = ds.length - i ∧ i ≤ ds.length ∧ Pv i H, ⟨ds.length, by simp, Nat.zero_le _, mk 0 _ Pv0 .refl⟩, ?_⟩
  rintro i m Hi ⟨rfl, hi, pv⟩
  obtain ⟨Ci, si⟩ := un i Hi pv
  have gi := hG Hi (toS si)
  by_cases hlt : i < ds.length
  · refine .inr ⟨hw.goes i Hi hlt gi, Pv (i + 1), fun H' p' => ⟨ds.length - (i + 1), by omega, rfl, hlt, p'⟩, fun x H' y => ?_⟩
    obtain ⟨s2, hr⟩ := hY i Hi x H' hlt (toS si) (hw.yields i Hi x H' hlt gi y)
    have hd : ds[i]? = some ds[i] := List.getElem?_eq_getElem hlt
    have rd : Rp X.K (DA :: S) H' ds[i] x := hr (DA :: S) _ (fun b o e n => ⟨toS si b o e n, fun z => by
      rcases List.mem_cons.mp z with z | z
      · rw [z, hDA] at e; cases e
      · exact n z⟩) Ci.trk hd
    have C2 := Ci.ext s2
    obtain ⟨δ1, t, g1, g2, g3, g4⟩ := ht i ds[i] DA hDS hd
    have Cw : Dl.Ctx X.K W (DA :: S) ((DA, .lst ((List.range i).flatMap out)) :: G) (wipeD δ (own.map (·.2))) (wipe σ (own.map (·.2))) H' := ⟨C2.env.wipe _, C2.deal, C2.ms, C2.objs, C2.trk, C2.fr⟩
    intro s HZ Cb cl fp
    refine g1 _ s HZ Cb cl fp _ H' x Cw rd _ fun σ2 C3 w2 => ⟨?_, fun s HZ Cb cl fp => ?_⟩
    · rw [w2 _ hj, wipe_wipe]
    have fin : ∀ {l : List PyData} {H'' : Hp}, Dl.Ctx X.K W (DA :: S) ((DA, .lst l) :: G) δ1 σ2 H'' → Stp (DA :: W.M) H' H'' → l = (List.range (i + 1)).flatMap out → Pv (i + 1) H'' := fun {l H''} C' st e => by
      subst e
      refine mk (i + 1) H'' ⟨C2.env.mv (st.mv fun z hz => ?_), C'.deal, C'.ms, C'.objs, C'.trk, C'.fr⟩ ((si.trans s2.nil).trans st)
      rcases List.mem_cons.mp hz with e | hz
      · rw [e]; exact List.mem_cons_self
      · exact (C2.ms z hz).1
    refine g2 _ s HZ Cb cl fp σ2 H' C3 _ fun b H3 C4 s3 pb => ?_
    subst pb
    cases b with
    | false =>
      refine iteF (fin C4 (s3.mono fun z hz => List.mem_cons_of_mem _ hz) ?_)
      rw [flat_succ, g3 rfl, List.append_nil]
    | true =>
      refine iteT fun s HZ Cb cl fp => ?_
      obtain ⟨ds1, hl1, gi1, gt⟩ := g4 rfl
      refine gi1 _ s HZ Cb cl fp σ2 H3 C4 _ fun J1 H4 C5 s4 hw1 => ?_
      obtain ⟨Gd1, Y1, hw1, hG1, hY1⟩ := hw1
      have hM : ∀ z ∈ DA :: W.M, z ∈ DA :: S := fun z hz => by
        rcases List.mem_cons.mp hz with e | hz
        · rw [e]; exact List.mem_cons_self
        · exact (C5.ms z hz).1
      refine ⟨fun j m H => m = ds1.length - j ∧ j ≤ ds1.length ∧ Dl.Ctx X.K W (DA :: S) ((DA, .lst ((List.range i).flatMap out ++ (out i).take j)) :: G) δ1 σ2 H ∧ Stp (DA :: W.M) H4 H, ⟨ds1.length, by simp, Nat.zero_le _, by rw [List.take_zero, List.append_nil]; exact C5, .refl⟩, ?_⟩
      rintro j m5 Hj ⟨rfl, hj', Cj, sj⟩
      have gj := hG1 Hj (sj.mono hM)
      by_cases hlt1 : j < ds1.length
      · refine .inr ⟨hw1.goes j Hj hlt1 gj, fun H => Dl.Ctx X.K W (DA :: S) ((DA, .lst ((List.range i).flatMap out ++ (out i).take (j + 1))) :: G) δ1 σ2 H ∧ Stp (DA :: W.M) H4 H, fun H' p' => ⟨ds1.length - (j + 1), by omega, rfl, hlt1, p'⟩, fun x1 H5 y1 => ?_⟩
        obtain ⟨s5, hr1⟩ := hY1 j Hj x1 H5 hlt1 (sj.mono hM) (hw1.yields j Hj x1 H5 hlt1 gj y1)
        have hd1 : ds1[j]? = some ds1[j] := List.getElem?_eq_getElem hlt1
        have rd1 : Rp X.K (DA :: S) H5 ds1[j] x1 := hr1 (DA :: S) _ ((sj.mono hM).mv fun _ h => h) Cj.trk hd1
        obtain ⟨δ2, e1, o1, o2, o3⟩ := gt j ds1[j] hd1
        have C6 := Cj.ext s5
        have Cw1 : Dl.Ctx X.K W (DA :: S) ((DA, .lst ((List.range i).flatMap out ++ (out i).take j)) :: G) (wipeD δ1 vs1) (wipe σ2 vs1) H5 := ⟨C6.env.wipe _, C6.deal, C6.ms, C6.objs, C6.trk, C6.fr⟩
        intro s HZ Cb cl fp
        refine o2 _ s HZ Cb cl fp _ H5 x1 Cw1 rd1 _ fun σ3 C7 w3 => ⟨?_, fun s HZ Cb cl fp => ?_⟩
        · rw [w3 _ hj1, wipe_wipe]
        refine bes_nil (X := blkX X scope s HZ Cb cl fp) σ3 H5 C7 _ fun b H6 C8 s6 pb => ?_
        subst pb
        refine iteT fun s HZ Cb cl fp => o3 _ s HZ Cb cl fp σ3 H6 C8 _ fun y H7 e7 C9 s7 e7e r7 => ?_
        subst e7e
        obtain ⟨⟨xs, hl, rs⟩, haS, haM, _⟩ := C9.objs _ List.mem_cons_self
        have hol : j < (out i).length := by omega
        have hacc : ((List.range i).flatMap out ++ (out i).take j).length ≤ 999 := by
          have h1 := flat_le (out := out) (show i + 1 ≤ ds.length from hlt)
          rw [flat_succ, List.length_append] at h1
          rw [List.length_append, List.length_take]
          omega
        refine ⟨xs, hl, by rw [rs.len]; exact small1000 (by omega), ?_⟩
        have m7 : Mv (DA :: S) (DA :: S) H7 (upd H7 DA (.lst (xs ++ [y]))) := fun b u e n => ⟨by rw [upd_ne (fun z => n (by rw [z]; exact List.mem_cons_self))]; exact e, n⟩
        have stt : Stp W.M H5 H7 := s6.trans s7
        have C10 : Dl.Ctx X.K W (DA :: S) ((DA, .lst ((List.range i).flatMap out ++ (out i).take j)) :: G) δ1 σ2 H7 := ⟨C6.env.mv (stt.mv fun z hz => (C6.ms z hz).1), C9.deal, C9.ms, C9.objs, C9.trk, C9.fr⟩
        have etk : (List.range i).flatMap out ++ (out i).take (j + 1) = ((List.range i).flatMap out ++ (out i).take j) ++ [e7] := by
          rw [List.take_add_one, o1, List.append_assoc]; rfl
        rw [etk]
        refine ⟨C10.wr (y := .lst _) List.mem_cons_self (fun z hz => ?_) ⟨xs ++ [y], upd_same, (rs.app (.one r7)).mv m7⟩, ((sj.trans s5.nil).trans (stt.mono fun z hz => List.mem_cons_of_mem _ hz)).trans (Stp.wr List.mem_cons_self)⟩
        rcases List.mem_cons.mp hz with z' | hz
        · exact .inl z'
        · exact .inr ⟨List.mem_cons_of_mem _ hz, hnG z hz⟩
      · have hjn : j = ds1.length := by omega
        subst hjn
        refine .inl ⟨hw1.stops Hj gj, fin Cj (((s3.trans s4).mono fun z hz => List.mem_cons_of_mem _ hz).trans sj) ?_⟩
        rw [flat_succ, List.take_of_length_le (by omega)]
  · have hin : i = ds.length := by omega
    subst hin
    refine .inl ⟨hw.stops Hi gi, ?_⟩
    obtain ⟨⟨ys, hl, rys⟩, _⟩ := Ci.objs _ List.mem_cons_self
    have CS : Dl.Ctx X.K W S G δ σ Hi := Ci.drop hDS (fun q hq => (C1.objs q hq).2.1) fun a ha => (C1.ms a ha).1
    exact q DA Hi _ ys CS (s1.trans (stp_new hDA si)) (C.back C1 s1 hDA) hDS hl rfl rys
theorem ne_lc2 {own : List (Str × Nat)} {vs1 js js1 : List Nat} {scope : Scope} {elt tg iter tg1 iter1 : Expr} {ifs : List Expr} (out : Nat → List PyData) (he : IT X W S G δ tg iter ds) (hlen : ((List.range ds.length).flatMap out).length ≤ 999) (hj : ∀ j ∈ js, j ∈ own.map (·.2)) (hj1 : ∀ j ∈ js1, j ∈ vs1) (hv : ∀ i ∈ vs1, i ∈ own.map (·.2))
    (ht : ∀ i d DA, DA ∉ S → ds[i]? = some d → ∃ δ' t, (∀ acc s H C cl fp, GD (blkX X scope s H C cl fp) W (DA :: S) ((DA, .lst acc) :: G) js tg (wipeD δ (own.map (·.2))) d δ') ∧ (∀ acc s H C cl fp, BEs (blkX X scope s H C cl fp) W (DA :: S) ((DA, .lst acc) :: G) δ' ifs (fun b => b = t)) ∧ (t = false → out i = []) ∧
      (t = true → ∃ ds1 : List PyData, ds1.length = (out i).length ∧ (∀ acc s H C cl fp, IT (blkX X scope s H C cl fp) W (DA :: S) ((DA, .lst acc) :: G) δ' tg1 iter1 ds1) ∧ ∀ (j : Nat) d1, ds1[j]? = some d1 → ∃ δ'' e, (out i)[j]? = some e ∧ (∀ acc s H C cl fp, GD (blkX X scope s H C cl fp) W (DA :: S) ((DA, .lst acc) :: G) js1 tg1 (wipeD δ' vs1) d1 δ'') ∧ ∀ acc s H C cl fp, DE (blkX X scope s H C cl fp) W (DA :: S) ((DA, .lst acc) :: G) δ'' elt (fun z => z = e)))
    (hc : X.calm = true) (hN : X.N.Nodup) (ok : BlkOk X.N X.env.scope scope own) (hs : ∀ x, foldedSetIterable iter X.env x = pure x := by intro _; rfl) (hs1 : ∀ env x, foldedSetIterable iter1 env x = pure x := by intro _ _; rfl) :
    NE X W S G δ (.ListComp elt [⟨tg, iter, ifs, 0⟩, ⟨tg1, iter1, [], 0⟩] scope pos) (fun es => es = (List.range ds.length).flatMap out) := fun σ H C Q q =>
  EE.of (pe_lc2B hc hN pie ok hv hs hs1) (lc2D out he hlen hj hj1 hv ht σ H C Q fun p H' es xs C' s' hp _ hl e r => q p H' es xs C' s' hp hl e r)
/-- y = [.. for .. for ..] on one line, y a local -/
theorem ss_setLc2 (i0 : Nat) {xy : Str} {py spos : Pos} {own : List (Str × Nat)} {vs1 js js1 : List Nat} {scope : Scope} {elt tg iter tg1 iter1 : Expr} {ifs : List Expr} (C : Dl.Ctx X.K W S G δ σ H) (out : Nat → List PyData) (he : IT X W S G δ tg iter ds) (hlen : ((List.range ds.length).flatMap out).length ≤ 999) (hj : ∀ j ∈ js, j ∈ own.map (·.2)) (hj1 : ∀ j ∈ js1, j ∈ vs1) (hv : ∀ i ∈ vs1, i ∈ own.map (·.2))
    (ht : ∀ i d DA, DA ∉ S → ds[i]? = some d → ∃ δ' t, (∀ acc s H C cl fp, GD (blkX X scope s H C cl fp) W (DA :: S) ((DA, .lst acc) :: G) js tg (wipeD δ (own.map (·.2))) d δ') ∧ (∀ acc s H C cl fp, BEs (blkX X scope s H C cl fp) W (DA :: S) ((DA, .lst acc) :: G) δ' ifs (fun b => b = t)) ∧ (t = false → out i = []) ∧
      (t = true → ∃ ds1 : List PyData, ds1.length = (out i).length ∧ (∀ acc s H C cl fp, IT (blkX X scope s H C cl fp) W (DA :: S) ((DA, .lst acc) :: G) δ' tg1 iter1 ds1) ∧ ∀ (j : Nat) d1, ds1[j]? = some d1 → ∃ δ'' e, (out i)[j]? = some e ∧ (∀ acc s H C cl fp, GD (blkX X scope s H C cl fp) W (DA :: S) ((DA, .lst acc) :: G) js1 tg1 (wipeD δ' vs1) d1 δ'') ∧ ∀ acc s H C cl fp, DE (blkX X scope s H C cl fp) W (DA :: S) ((DA, .lst acc) :: G) δ'' elt (fun z => z = e)))
    (kn : ∀ σ' H', Dl.Ctx X.K W S G (δ.set i0 (.d (.list ((List.range ds.length).flatMap out)))) σ' H' → Stp W.M H H' → SS X r D σ' H') (hc : X.calm = true) (hN : X.N.Nodup) (ok : BlkOk X.N X.env.scope scope own) (hsw : swapsWith (.ListComp elt [⟨tg, iter, ifs, 0⟩, ⟨tg1, iter1, [], 0⟩] scope pos) (some (.Name xy py)) spos.line X.env = pure true) (hi0 : X.N[i0]? = some xy := by rfl) (hyl : X.env.scope.names.lookup xy = some .local := by rfl) (hs : ∀ x, foldedSetIterable iter X.env x = pure x := by intro _; rfl) (hs1 : ∀ env x, foldedSetIterable iter1 env x = pure x := by intro _ _; rfl) :
    SS X (.Assign [.Name xy py] (.ListComp elt [⟨tg, iter, ifs, 0⟩, ⟨tg1, iter1, [], 0⟩] scope pos) spos :: r) D σ H :=
  ss_cons (S1.of (ps_setLc2 (g := bG X scope tg) (tt := bT X scope ifs) (wi1 := fun σ H R => ∀ (s : Shared) (H0 : Hp) (C : Addr) (cl : List (Str × Addr)) (fp : List Addr), IEx (blkX X scope s H0 C cl fp) tg1 iter1 σ H R) (g1 := bG X scope tg1) (tt1 := bT X scope []) (te := bE X scope elt) hc hN hi0 hyl hsw pie ok hv (fun s H C cl fp => ⟨fun pins s' σ H' v u Q I r h => h s H C cl fp pins s' u I r⟩) (fun s H C cl fp => ⟨fun pins s' σ H' Q I h => h s H C cl fp pins s' I⟩) (fun s H C cl fp => ⟨fun pins s' σ H' R I h => h s H C cl fp pins s' I⟩) (fun s H C cl fp => ⟨fun pins s' σ H' v u Q I r h => h s H C cl fp pins s' u I r⟩) (fun s H C cl fp => ⟨fun pins s' σ H' Q I h => h s H C cl fp pins s' I⟩) (fun s H C cl fp => ⟨fun pins s' σ H' Q I h => h s H C cl fp pins s' I⟩) hs hs1)
    (lc2D out he hlen hj hj1 hv ht σ H C _ fun p H' es xs C' st hp hpS hl ee rs => kn _ H' (C'.set i0 ⟨.ref p, rfl, p, xs, rfl, ⟨hpS, hl⟩, (ee ▸ rs).mv (Mv.sub fun x hx => List.mem_cons_of_mem _ hx)⟩) st))
/-! d.get(k, x) -/
theorem de_get2 {ap cp : Pos} (hu : X.A.units + 1 < cLine) (ha : DE X W S G δ a (fun v => v = .dict (mD m))) (he : DE X W S G δ e (fun v => v = x)) (hx : x = kD k) (hf : DE X W S G δ f (fun v => v = d)) (hM : M2 X a "get" ap e f cp := by exact ⟨rfl, rfl, rfl, rfl⟩) :
    DE X W S G δ (.Call (.Attribute a "get" ap) [e, f] [] cp) (fun v => v = (dvl m k).getD d) := fun σ H C Q q =>
  EE.of (pe_dget2 hu pee pee pee hM) (ha σ H C _ fun u H1 da C1 s1 e1 r1 => by
    subst e1
    obtain ⟨p, kvs, rfl, hp, hrd, rk⟩ := rp_dict r1
    refine ⟨p, rfl, .inl ⟨kvs, hrd⟩, he σ H1 C1 _ fun y H2 dy C2 s2 e2 r2 => hf σ H2 C2 _ fun z H3 dz C3 s3 e3 r3 => ?_⟩
    subst e2 e3 hx
    obtain ⟨p', kvs', e4, _, hrd', rk'⟩ := rp_dict (C2.mv s3 (C1.mv s2 r1))
    cases e4
    refine ⟨valV kvs' k, rd_dget (C2.mv s3 r2) hrd' rfl, ?_⟩
    cases hv : dvl m k with
    | none =>
      have := rk'.has k
      rw [hv] at this
      cases q2 : valV kvs' k with
      | none => exact q z H3 dz C3 ((s1.trans s2).trans s3) (by rw [hv]; rfl) r3
      | some _ => rw [q2] at this; cases this
    | some dd =>
      obtain ⟨v, ev, rv⟩ := rk'.get hv
      rw [ev]
      exact q v H3 dd C3 ((s1.trans s2).trans s3) (by rw [hv]; rfl) rv)
/-- {a: b, c: e}, no objects -/
theorem nd_disp2 {k1 k2 : Key} {d1 d2 : PyData} {a1 b1 a2 b2 : Expr} (ha : DE X W S G δ a1 (fun z => z = kD k1)) (hb : DE X W S G δ b1 (fun z => z = d1)) (ha2 : DE X W S G δ a2 (fun z => z = kD k2)) (hb2 : DE X W S G δ b2 (fun z => z = d2)) (hne : k1 ≠ k2) (hf : flat d1 = true := by rfl) (hf2 : flat d2 = true := by rfl) : ND X W S G δ (.Dict [some a1, some a2] [b1, b2] pos) (fun m => m = [(k1, d1), (k2, d2)]) := fun σ H C Q q => by
  refine EE.of (pe_disp (pps_cons pee pee (pps_cons pee pee pps_nil)) rfl rfl (by simp) (by show 2 ≤ 15; decide)) fun p hp => ?_
  have C0 := C.ext (Stp.new (o := .dK []) hp)
  have hpS : p ∉ S := C.trk.out hp
  have hpM : p ∉ W.M := fun z => hpS (C.ms p z).1
  refine ha σ _ C0 _ fun u1 H1 da1 C1 s1 e1 r1 => hb σ H1 C1 _ fun w1 H2 db1 C2 s2 e2 r2 => ha2 σ H2 C2 _ fun u2 H3 da2 C3 s3 e3 r3 => hb2 σ H3 C3 _ fun w2 H4 db2 C4 s4 e4 r4 => ?_
  subst e1 e2 e3 e4
  have hp4 : H4 p = some (.dK []) := s4 p _ (s3 p _ (s2 p _ (s1 p _ upd_same hpM) hpM) hpM) hpM
  refine ⟨hp4, [(k1, w1), (k2, w2)], by rw [kD_v r1, kD_v r3]; rfl, by show 2 ≤ 15; decide, ?_⟩
  have em : mergeK [] [(k1, w1), (k2, w2)] = [(k1, w1), (k2, w2)] := by simp [mergeK, putK, hne]
  rw [em]
  have st : Stp W.M H (upd H4 p (.dK [(k1, w1), (k2, w2)])) := fun c o e n => by
    have hc : c ≠ p := ne_of_none e hp
    rw [upd_ne hc]
    exact s4 c o (s3 c o (s2 c o (s1 c o (by rw [upd_ne hc]; exact e) n) n) n) n
  have CF : Dl.Ctx X.K W S G δ σ (upd H4 p (.dK [(k1, w1), (k2, w2)])) := C.stp st fun dl cl e => by
    obtain ⟨h1, cs, b0, h2, h3, h4⟩ := C4.dealW (X := X) e
    refine ⟨h1, cs, b0, ?_, ?_, h4⟩
    · rw [upd_ne (fun z => hpM (by rw [← z, e]; simp))]; exact h2
    · rw [upd_ne (fun z => hpM (by rw [← z, e]; simp))]; exact h3
  exact q p _ [(k1, db1), (k2, db2)] [(k1, w1), (k2, w2)] CF st hp upd_same rfl ⟨w1, [(k2, w2)], rfl, r2.flat hf, w2, [], rfl, r4.flat hf2, rfl⟩
/-! repr -/
theorem de_repr {p : Pos} (hg0 : X.A.guards = some []) (hm : X.mg "repr" = none) (ha : DE X W S G δ e (fun v => v = d)) (hl : d.canLay0 = true) (hs : d.showable = true) (hu : X.A.units + (d.depth + 1) < cLine) (hz : d.shown.length ≤ sizeLine) (hcase : (∃ ds, d = .tuple ds) ∨ ∃ ds, d = .list ds) (hg : Gl X "repr" := by rfl) (hse : nStar e = true := by rfl) : DE X W S G δ (.Call (.Name "repr" p) [e] [] pos) (fun v => v = .str d.shown) := fun σ H C Q q =>
  EE.of (pe_callB (r := fun vs H Q => ∃ v, vs = [v] ∧ Dp X.K H v d ∧ (∃ a, v = .ref a) ∧ Q (.str d.shown) H) (fun pins s σ H vs us Q I r ⟨v, e1, h, ⟨a, ea⟩, q⟩ => by
    subst e1 ea
    obtain ⟨u, rfl, ru⟩ := vals1 r
    obtain ⟨as, rd⟩ := Dp.reads I d _ u h ru
    cases ru
    exact repr_of_reads' rd hs (PyData.noDict_hsm (PyData.hasDict_of_canLay d hl)) hg0 hu (fun _ _ e => e) (fun h' u tk hk => ⟨.str d.shown, H, I.kept (t' := tk) hk, ⟨_, rfl⟩, q⟩) hz) hg hm (by decide +kernel) (pa_cons pee pa_nil (star_cons hse)) (he := star_cons hse) (hpl := rfl)) (ha σ H C _ fun v H1 d1 C1 s1 e1 rv => by
    subst e1
    refine ⟨v, rfl, rv.dp hl, ?_, q _ H1 _ C1 s1 rfl rfl⟩
    rcases hcase with ⟨ds, rfl⟩ | ⟨ds, rfl⟩
    · obtain ⟨a, _, e2, _⟩ := rv; exact ⟨a, e2⟩
    · obtain ⟨a, _, e2, _⟩ := rv; exact ⟨a, e2⟩)
theorem de_reprI {p : Pos} {i : Int} (hm : X.mg "repr" = none) (ha : DE X W S G δ e (fun v => v = .int i)) (hi : i.natAbs.log2 < 1920) (hg : Gl X "repr" := by rfl) (hse : nStar e = true := by rfl) : DE X W S G δ (.Call (.Name "repr" p) [e] [] pos) (fun v => v = .str (toString i)) := fun σ H C Q q =>
  EE.of (pe_callB SkE.call_repr_int hg hm (by decide +kernel) (pa_cons pee pa_nil (star_cons hse)) (he := star_cons hse) (hpl := rfl)) (ha σ H C _ fun v H1 d1 C1 s1 e1 rv => by
    subst e1
    have rv : v = .int i := rv
    subst rv
    exact ⟨i, rfl, hi, q _ H1 _ C1 s1 rfl rfl⟩)
/-! f(k = e), f of one parameter -/
structure DefK (P : Program) (w : World) (K : PySem.W.Frag) (mg : Str → Option Value) (base : Heap) (k : Nat) (x kn : Str) (sp : Sp) : Prop where
  ex : ∃ (f : Addr) (fd : FuncData), mg x = some (.ref f) ∧ PySem.W.keepIn K (.ref f) = true ∧ KBinds K fd [kn] [kn] (fun us ws => us ++ ws) (fun vs zs => vs ++ zs) ∧ FnOk P w K mg base CX0 k f fd [kn] sp
theorem de_callKw {k : Nat} {x kn : Str} {ι : Type} {pre : ι → List PyData → Prop} {post : ι → PyData → Prop} {p kp : Pos} (F : DefK X.prog X.w X.K X.mg X.base k x kn (spP X.K pre post)) (hr : Room k X.A) (ha : DE X W S G δ e Pa) (hpre : ∀ d, Pa d → ∃ i, pre i [d] ∧ ∀ z, post i z → P z)
    (hg : Gl X x := by rfl) (hdb : (x == ("__debug__" : Str)) = false := by decide) (hall : (backToKw pos (keywordEach [⟨some kn, e, kp⟩] X.env)).all (·.1.isSome) = true := by rfl) (hks : (backToKw pos (keywordEach [⟨some kn, e, kp⟩] X.env)).filterMap (·.1) = [kn] := by rfl)
    (hpl : ((backTo pos (starEach [] X.env)).any (·.1) || (backToKw pos (keywordEach [⟨some kn, e, kp⟩] X.env)).any (·.1.isNone)) = false := by rfl) : DE X W S G δ (.Call (.Name x p) [] [⟨some kn, e, kp⟩] pos) P := fun σ H C Q q => by
  obtain ⟨f, fd, h1, h2, h3, h4⟩ := F.ex
  intro pins s I
  refine wpAny_Call_Name_kw (ld_glob I hg h1 ?_ hdb)
  refine PySem.W.callWith_KW0 (h₀ := X.base) I.ok.mod.kin h2 hall (thn ((pk_cons (X := X) (e := e) (pee) pk_nil).run pos pins s σ H (fun zs H1 => ∃ z d, zs = [z] ∧ Dl.Ctx X.K W S G δ σ H1 ∧ Stp W.M H H1 ∧ Pa d ∧ Rp X.K S H1 d z) I (ha σ H C _ fun v H1 d C1 s1 pd rv => ⟨v, d, rfl, C1, s1, pd, rv⟩)) fun ws s2 ⟨zs, H2, I2, rz, z, d, ez, C2, s2', pd, rz'⟩ => ⟨I2.kIn, ?_⟩) hpl
  subst ez
  rw [hks]
  obtain ⟨i, p1, p2⟩ := hpre d pd
  exact run_fnk (us := []) (vs := []) (E := E0) h4 hr h3 pass0 I2 .nil rz ⟨i, S, [d], C2.trk, .one rz', p1, fun v H' dd st po rv => q v H' dd (C2.ext st) (s2'.trans st.nil) (p2 dd po) rv⟩
end
end Dl
/-! text A27 -/
set_option Elab.async false
set_option linter.all false
set_option maxRecDepth 100000
set_option maxHeartbeats 1000000
namespace K53
open PySem PySem.Spec PyProof.Rows L2 Dl
local macro_rules | `(tactic| walk_at "fl") => `(tactic| first | rfl | assumption | (simp only [*]; done) | decide)
theorem idxOf_ok (t : Nat) : ∀ {L : List Nat}, t ∈ L → L[L.idxOf t]? = some t ∧ ∀ i, i < L.idxOf t → L[i]? ≠ some t
  | [], h => by cases h
  | a :: L, h => by
    by_cases e : a = t
    · subst e
      rw [List.idxOf_cons_self]
      exact ⟨rfl, fun i hi => absurd hi (by omega)⟩
    · have h' : t ∈ L := by
        rcases List.mem_cons.mp h with z | z
        · exact absurd z.symm e
        · exact z
      obtain ⟨h1, h2⟩ := idxOf_ok t h'
      have e3 : (a :: L).idxOf t = L.idxOf t + 1 := by
        rw [List.idxOf_cons]
        have : (a == t) = false := by simpa using e
        rw [this]; rfl
      rw [e3]
      refine ⟨by simpa using h1, fun i hi => ?_⟩
      cases i with
      | zero =>
        intro z
        have z : a = t := by simpa using z
        exact e z
      | succ i => simpa using h2 i (by omega)
theorem EndD.two {e : PyData} {tg : List Nat} (h : EndD e tg) : tg.length ≤ 2 := by cases h <;> simp
theorem _root_.Dl.LcRel.map {α : Type} {l : List α} {g : α → PyData} {R : Nat → Option PyData → Prop} {es : List PyData} {n : Nat} (h : ∀ i o, R i o → ∃ x, l[i]? = some x ∧ o = some (g x)) (hn : n = l.length) (r : LcRel R n es) : es = l.map g := by
  subst hn
  have al := r.all (fun i z => by
    obtain ⟨_, _, e⟩ := h i none z
    cases e)
  apply List.ext_getElem?
  intro i
  cases q : es[i]? with
  | none =>
    have : es.length ≤ i := List.getElem?_eq_none_iff.mp q
    rw [List.getElem?_eq_none (by rw [List.length_map]; omega)]
  | some e =>
    obtain ⟨x, hx, e2⟩ := h i _ (al.2 i e q)
    rw [List.getElem?_map, hx]
    exact e2
/-- the law's web of a function's blocks: places -/
def placeOf (bl : List BlkR) (t : Nat) : Nat := (bl.map (·.label)).idxOf t
def webL (bl : List BlkR) : List (List Nat) := bl.map fun b => b.tg.map (placeOf bl)
section
variable {P : Program} {w : World} {K : PySem.W.Frag} {mg : Str → Option Value} {base : Heap}
theorem bk_L_web_of_2 : BlkOk ["_law_function_here", "_law_labels", "_law_block_here", "_law_target"] (scs (defBody s_L_web_of) 1) (scs (defBody s_L_web_of) 2) [("_law_target", 3)] := ⟨by decide +kernel, by decide +kernel, by decide +kernel, by decide +kernel, by decide +kernel⟩
theorem ok_L_web_of (T : Txt K mg) : DefOk P w K mg base 2 "_law_web_of" ["_law_function_here"] (spP K (fun (f : FnR) ds => ds = [f.d] ∧ FnD f) (fun f d => d = .list (webD (webL f.blocks)))) := by
  refine def_P T.F_L_web_of T.g_L_web_of b_L_web_of sc_L_web_of (by rintro n _ ⟨rfl, _⟩; rfl) ?_
  rintro X ⟨cdv, A, outer, s, H0, E, hr, rfl⟩ f S0 H ds σ Q C ⟨rfl, fd⟩ hQ
  have r1 : Room 1 (A.deeper (envOfC "_law_web_of" (defScope s_L_web_of) s.heap.objs.size (He.ga K "_law_web_of") cdv)) := hr
  have hlen := fd.len
  have bat : ∀ {i : Nat} {d : PyData}, (f.blocks.map BlkR.d)[i]? = some d → ∃ b, f.blocks[i]? = some b ∧ d = b.d := fun {i d} hd => by
    rw [List.getElem?_map] at hd
    cases q : f.blocks[i]? with
    | none => rw [q] at hd; cases hd
    | some b => rw [q] at hd; cases hd; exact ⟨b, rfl, rfl⟩
  refine ss_set 1 C (P := fun d => d = .list (nD (f.blocks.map (·.label)))) (DE.imp (NE.de (ne_lcI (own := [("_law_block_here", 2)]) (js := [2]) (ds := f.blocks.map BlkR.d) (it_data (y := .tuple (f.blocks.map BlkR.d)) (de_ix (da := .tuple [f.name, .tuple f.tys, f.res, .tuple (f.blocks.map BlkR.d)]) (de_var 0 rfl) de_int rfl) rfl) (by rw [List.length_map]; omega) (by decide) (fun i o => ∃ b, f.blocks[i]? = some b ∧ o = some (.int (b.label : Int))) (fun i d DA acc hDA hd => ?_) rfl sc_L_web_of.nd bk_L_web_of_0)) fun d ⟨l, e, rel⟩ => ?_) (fun d σ1 H1 C1 _ e => ?_) sc_L_web_of.nd
  · obtain ⟨b, hb, rfl⟩ := bat hd
    exact ⟨[.d f.d, .u, .d b.d, .u], fun k => k = true, fun d => d = .int (b.label : Int), fun s H C cl fp => gd_name 2 sc_L_web_of.nd, fun s H C cl fp => bes_nil, fun _ s H C cl fp => de_ix (da := b.d) (de_var 2 rfl) de_int rfl, (fun z => by cases z), fun d' _ e => ⟨b, hb, by rw [e]⟩⟩
  · rw [e, rel.map (l := f.blocks) (g := fun b => .int (b.label : Int)) (fun i o h => h) (by rw [List.length_map]), nD, List.map_map]
    rfl
  subst e
  refine ss_retP (S0 := S0) C1 (DE.imp (NE.de (ne_lcI (own := [("_law_block_here", 2)]) (js := [2]) (ds := f.blocks.map BlkR.d) (it_data (y := .tuple (f.blocks.map BlkR.d)) (de_ix (da := .tuple [f.name, .tuple f.tys, f.res, .tuple (f.blocks.map BlkR.d)]) (de_var 0 rfl) de_int rfl) rfl) (by rw [List.length_map]; omega) (by decide) (fun i o => ∃ b, f.blocks[i]? = some b ∧ o = some (.list (nD (b.tg.map (placeOf f.blocks))))) (fun i d DA acc hDA hd => ?_) rfl sc_L_web_of.nd bk_L_web_of_1)) fun d ⟨l, e, rel⟩ => ?_) hQ fun d e => e
  · obtain ⟨b, hb, rfl⟩ := bat hd
    have hbm := List.mem_of_getElem? hb
    have bd := fd.bl b hbm
    have htg : b.tg.length ≤ 2 := bd.fin.two
    refine ⟨[.d f.d, .d (.list (nD (f.blocks.map (·.label)))), .d b.d, .u], fun k => k = true, fun d => d = .list (nD (b.tg.map (placeOf f.blocks))), fun s H C cl fp => gd_name 2 sc_L_web_of.nd, fun s H C cl fp => bes_nil, fun _ s2 H2 C2 cl2 fp2 => ?_, (fun z => by cases z), fun d' _ e => ⟨b, hb, by rw [e]⟩⟩
    refine DE.imp (NE.de (ne_lcP (own := [("_law_target", 3)]) (js := [3]) (Pds := fun ds => ∃ as : List PyData, ds = waysD b.tg as ∧ as.length = b.tg.length) (itp_list (DE.imp (de_call (ok_ways T) r1 (da_consE (de_ix (da := b.d) (de_var 2 rfl) de_int rfl) da_nilE) (pre1 (b.ending, b.tg) ⟨rfl, bd.fin⟩ fun d p => p)) fun d ⟨as, e, h⟩ => ⟨_, e, as, rfl, h⟩)) (fun ds ⟨as, e, h⟩ => by rw [e, waysD, List.length_zipWith]; omega) (by decide) (fun _ i o => ∃ t, b.tg[i]? = some t ∧ o = some (.int (placeOf f.blocks t : Int))) (fun ds j d DA2 acc2 ⟨as, e, h⟩ hDA2 hd2 => ?_) rfl sc_L_web_of.nd (BlkOk.inner bk_L_web_of_2 (by decide +kernel)))) fun d ⟨l, e, ds, ⟨as, e1, h⟩, rel⟩ => ?_
    · subst e
      obtain ⟨t, a, ht, rfl⟩ : ∃ t a, b.tg[j]? = some t ∧ d = .tuple [.int (t : Int), a] := by
        rw [waysD, List.getElem?_zipWith] at hd2
        cases q1 : b.tg[j]? with
        | none => rw [q1] at hd2; simp at hd2
        | some t =>
          cases q2 : as[j]? with
          | none => rw [q1, q2] at hd2; simp at hd2
          | some a => rw [q1, q2] at hd2; simp at hd2; exact ⟨t, a, rfl, hd2.symm⟩
      have hin := fd.tg b hbm t (List.mem_of_getElem? ht)
      obtain ⟨h1, h2⟩ := idxOf_ok t hin
      refine ⟨[.d f.d, .d (.list (nD (f.blocks.map (·.label)))), .d b.d, .d (.tuple [.int (t : Int), a])], fun k => k = true, fun d => d = .int (placeOf f.blocks t : Int), fun s H C cl fp => gd_name 3 sc_L_web_of.nd, fun s H C cl fp => bes_nil, fun _ s3 H3 C3 cl3 fp3 => ?_, (fun z => by cases z), fun d' _ e => ⟨t, ht, by rw [e]⟩⟩
      refine de_index (ds := nD (f.blocks.map (·.label))) (z := .int (t : Int)) (x := .int (t : Int)) (de_var 1 rfl) (de_ix (da := .tuple [.int (t : Int), a]) (de_var 3 rfl) de_int rfl) rfl (nD_flat _) (nD_get h1) (by simp [eqV, fV]) (fun i z' hi hz' => ?_)
      obtain ⟨u, hu, rfl⟩ := nD_at hz'
      have hne : u ≠ t := fun e => h2 i hi (by rw [hu, e])
      have : ¬ (u : Int) = (t : Int) := by omega
      simp [eqV, fV, this]
    · rw [e, rel.map (l := b.tg) (g := fun t => .int (placeOf f.blocks t : Int)) (fun i o h => h) (by rw [e1, waysD, List.length_zipWith]; omega), nD, List.map_map]
      rfl
  · rw [e, rel.map (l := f.blocks) (g := fun b => .list (nD (b.tg.map (placeOf f.blocks)))) (fun i o h => h) (by rw [List.length_map]), webD, webL, List.map_map]
    rfl
end
end K53
/-! text D23 -/
set_option Elab.async false
set_option linter.all false
set_option maxRecDepth 100000
set_option maxHeartbeats 1000000
namespace Dl
open PySem PySem.Spec PyProof.Rows L2
section
variable {X : Cx} {W : Wd} {S : List Addr} {G : List (Addr × MO)} {δ δ' : List Sl} {a b c e f tg : Expr} {es : List Expr} {P Pa Pb : PyData → Prop} {pos : Pos} {σ : L2.St} {H : Hp} {D : Ends} {r : List Stmt} {d x y : PyData} {ds : List PyData} {js : List Nat} {m : List (Key × PyData)} {k : Key}
/-- [.. for x in xs ..], xs a list that changes (not within) -/
theorem lcM_core (i : Nat) {p : Addr} {own : List (Str × Nat)} {scope : Scope} {elt : Expr} {ifs : List Expr} {Q : VK} (C : Dl.Ctx X.K W S G δ σ H) (hd : δ[i]? = some (.v (.ref p))) (hGp : (p, .lst ds) ∈ G) (hlen : ds.length ≤ 999) (hj : ∀ j ∈ js, j ∈ own.map (·.2)) (R : Nat → Option PyData → Prop)
    (ht : ∀ i d DA acc, DA ∉ S → ds[i]? = some d → LcTurn X scope W (DA :: S) ((DA, .lst acc) :: G) (wipeD δ (own.map (·.2))) tg ifs elt js d (R i))
    (q : ∀ p H' es xs, Dl.Ctx X.K W S G δ σ H' → Stp W.M H H' → H p = none → p ∉ S → H' p = some (.lst xs) → LcRel R ds.length es → Rps X.K (p :: S) H' es xs → Q (.ref p) H') :
    tLc (iList X.K (tVar i)) (bG X scope tg) (bT X scope ifs) (bE X scope elt) (own.map (·.2)) σ H Q := by
  obtain ⟨⟨xs, hp, rs⟩, hpS, hpM, _⟩ := C.objs _ hGp
  obtain ⟨o, e1, e2⟩ := C.env.get hd
  have e2 : o = some (.ref p) := e2
  refine ⟨.ref p, by rw [e1, e2], p, rfl, ⟨xs, .inl (.inl hp)⟩, fun DA hDA => ?_⟩
  have hDS : DA ∉ S := C.trk.out hDA
  have hpD : p ≠ DA := fun z => hDS (by rw [← z]; exact hpS)
  have hnG : ∀ q ∈ G, q.1 ≠ DA := fun q hq z => hDS (by rw [← z]; exact (C.objs q hq).2.1)
  have C1' : Dl.Ctx X.K W (DA :: S) ((DA, .lst []) :: G) δ σ (upd H DA (.lst [])) := C.vol hDA ⟨[], upd_same, rfl⟩
  refine lc_it (walk_list (K := X.K) (a := p) (xs := xs)) (fun i H' => ∃ acc, Dl.Ctx X.K W (DA :: S) ((DA, .lst acc) :: G) δ σ H' ∧ LcRel R i acc ∧ Stp (DA :: W.M) (upd H DA (.lst [])) H') ⟨[], C1', rfl, .refl⟩ (fun i H' _ ⟨acc, C', rel, s⟩ => .inl (.inl (s p _ (by rw [upd_ne hpD]; exact hp) fun z => ?_))) (fun i x H' H'' hi ⟨acc, C', rel, s⟩ yy => ?_) (fun H' ⟨acc, C', rel, s'⟩ => ?_)
  · rcases List.mem_cons.mp z with z | z
    · exact hpD z
    · exact hpM z
  · obtain ⟨rfl, hx⟩ := yy
    obtain ⟨d, hd', rd⟩ := rs.getV hx
    have rd' : Rp X.K (DA :: S) H'' d x := rd.mv fun b o e n => by
      have hb : b ≠ DA := ne_of_none e hDA
      refine ⟨s b o (by rw [upd_ne hb]; exact e) fun z => ?_, fun z => ?_⟩
      · rcases List.mem_cons.mp z with z | z
        · exact hb z
        · exact n (C.ms b z).1
      · rcases List.mem_cons.mp z with z | z
        · exact hb z
        · exact n z
    have hz := rel.len
    have hi' : i < ds.length := (List.getElem?_eq_some_iff.mp hd').1
    exact lc_turn (ht i d DA acc hDS hd') hj C' hnG rd' (by omega) (fun H2 C2 s3 r => ⟨acc, C2, .inl ⟨r, rel⟩, s.trans s3⟩) (fun H2 e C2 s3 r => ⟨acc ++ [e], C2, .inr ⟨acc, e, rfl, r, rel⟩, s.trans s3⟩)
  · obtain ⟨⟨ys, hl, rys⟩, _⟩ := C'.objs _ List.mem_cons_self
    have CS : Dl.Ctx X.K W S G δ σ H' := C'.drop hDS (fun q hq => (C.objs q hq).2.1) fun a ha => (C.ms a ha).1
    rw [rs.len] at rel
    exact q DA H' acc ys CS (stp_new hDA s') hDA hDS hl rel rys
theorem ne_lcM (i : Nat) {p : Addr} {xn : Str} {p1 : Pos} {own : List (Str × Nat)} {scope : Scope} {elt : Expr} {ifs : List Expr} (hd : δ[i]? = some (.v (.ref p))) (hGp : (p, .lst ds) ∈ G) (hlen : ds.length ≤ 999) (hj : ∀ j ∈ js, j ∈ own.map (·.2)) (R : Nat → Option PyData → Prop)
    (ht : ∀ i d DA acc, DA ∉ S → ds[i]? = some d → LcTurn X scope W (DA :: S) ((DA, .lst acc) :: G) (wipeD δ (own.map (·.2))) tg ifs elt js d (R i))
    (hc : X.calm = true) (hN : X.N.Nodup) (ok : BlkOk X.N X.env.scope scope own) (hs : ∀ x, foldedSetIterable (.Name xn p1) X.env x = pure x := by intro _; rfl)
    (hNi : X.N[i]? = some xn := by rfl) (hv : Vis X.env.scope xn := by first | exact Or.inl rfl | exact Or.inr (Or.inl rfl) | exact Or.inr (Or.inr rfl)) (h1 : (xn == ("__debug__" : Str)) = false := by decide) (h2 : (xn == ("__classdict__" : Str)) = false := by decide) :
    NE X W S G δ (.ListComp elt [⟨tg, .Name xn p1, ifs, 0⟩] scope pos) (LcRel R ds.length) := fun σ H C Q q =>
  EE.of (pe_lcB hc hN (pi_list (pe_var (i := i) hNi hv h1 h2)) ok hs) (lcM_core i C hd hGp hlen hj R ht fun p H' es xs C' st hp _ hl rel rs => q p H' es xs C' st hp hl rel rs)
/-- y = [.. for x in xs ..] on one line, y a local -/
theorem ss_setLcM (i0 i : Nat) {xy : Str} {py spos : Pos} {p : Addr} {xn : Str} {p1 : Pos} {own : List (Str × Nat)} {scope : Scope} {elt : Expr} {ifs : List Expr} (C : Dl.Ctx X.K W S G δ σ H) (hd : δ[i]? = some (.v (.ref p))) (hGp : (p, .lst ds) ∈ G) (hlen : ds.length ≤ 999) (hj : ∀ j ∈ js, j ∈ own.map (·.2)) (R : Nat → Option PyData → Prop)
    (ht : ∀ i d DA acc, DA ∉ S → ds[i]? = some d → LcTurn X scope W (DA :: S) ((DA, .lst acc) :: G) (wipeD δ (own.map (·.2))) tg ifs elt js d (R i))
    (kn : ∀ es σ' H', Dl.Ctx X.K W S G (δ.set i0 (.d (.list es))) σ' H' → Stp W.M H H' → LcRel R ds.length es → SS X r D σ' H')
    (hc : X.calm = true) (hN : X.N.Nodup) (ok : BlkOk X.N X.env.scope scope own) (hsw : swapsWith (.ListComp elt [⟨tg, .Name xn p1, ifs, 0⟩] scope pos) (some (.Name xy py)) spos.line X.env = pure true) (hi0 : X.N[i0]? = some xy := by rfl) (hyl : X.env.scope.names.lookup xy = some .local := by rfl) (hs : ∀ x, foldedSetIterable (.Name xn p1) X.env x = pure x := by intro _; rfl)
    (hNi : X.N[i]? = some xn := by rfl) (hv : Vis X.env.scope xn := by first | exact Or.inl rfl | exact Or.inr (Or.inl rfl) | exact Or.inr (Or.inr rfl)) (h1 : (xn == ("__debug__" : Str)) = false := by decide) (h2 : (xn == ("__classdict__" : Str)) = false := by decide) :
    SS X (.Assign [.Name xy py] (.ListComp elt [⟨tg, .Name xn p1, ifs, 0⟩] scope pos) spos :: r) D σ H :=
  ss_cons (S1.of (ps_setLc (g := bG X scope tg) (tt := bT X scope ifs) (te := bE X scope elt) hc hN hi0 hyl hsw (pi_list (pe_var (i := i) hNi hv h1 h2)) ok (fun s H C cl fp => ⟨fun pins s' σ H' v u Q I r h => h s H C cl fp pins s' u I r⟩) (fun s H C cl fp => ⟨fun pins s' σ H' Q I h => h s H C cl fp pins s' I⟩) (fun s H C cl fp => ⟨fun pins s' σ H' Q I h => h s H C cl fp pins s' I⟩) hs)
    (lcM_core i C hd hGp hlen hj R ht fun p H' es xs C' st hp hpS hl rel rs => kn es _ H' (C'.set i0 ⟨.ref p, rfl, p, xs, rfl, ⟨hpS, hl⟩, rs.mv (Mv.sub fun x hx => List.mem_cons_of_mem _ hx)⟩) st rel))
/-- a, b = {}, [..]: names that comprehensions read -/
theorem ss_parDLt (i j : Nat) {x y : Str} {px py pt pos : Pos} {kt k2 : Nat} {pt2 : Pos} {Pq : List (Key × PyData) → Prop} {Pm : List PyData → Prop} (C : Dl.Ctx X.K W S G δ σ H) (hc : X.calm = true) (ha : ND X W S G δ a Pq) (hb : ∀ q l, NE X W (q :: S) ((q, .dct l) :: G) δ b Pm)
    (k : ∀ p q da db σ' H', p ∉ S → q ∉ p :: S → Dl.Ctx X.K W (q :: p :: S) ((q, .lst db) :: (p, .dct da) :: G) ((δ.set i (.v (.ref p))).set j (.v (.ref q))) σ' H' → Pq da → Pm db → SS X r D σ' H') (hN : X.N.Nodup)
    (hi : X.N[i]? = some x := by rfl) (hj : X.N[j]? = some y := by rfl) (hx : Loc X.env.scope x := by first | exact Or.inl rfl | exact Or.inr rfl) (hy : Loc X.env.scope y := by first | exact Or.inl rfl | exact Or.inr rfl) (hfx : X.fn x = true ∨ X.env.scope.names.lookup x = some .local := by first | exact .inl rfl | exact .inr rfl) (hfy : X.fn y = true ∨ X.env.scope.names.lookup y = some .local := by first | exact .inl rfl | exact .inr rfl)
    (hs : swapsWithSole [.Tuple [.Name x px, .Name y py] kt pt] (.Tuple [a, b] k2 pt2) pos.line X.env = pure false := by rfl) (hw : swappedStores [.Tuple [.Name x px, .Name y py] kt pt] (.Tuple [a, b] k2 pt2) X.env = pure none := by rfl) (h1 : (assignEach [.Tuple [.Name x px, .Name y py] kt pt] X.env).map (·.2) = [assign (.Tuple [.Name x px, .Name y py] kt pt) X.env] := by rfl)
    (hn : (assignEach [.Name x px, .Name y py] X.env).length = [Expr.Name x px, Expr.Name y py].length := by rfl) (hst : (assignEach [.Name x px, .Name y py] X.env).findIdx? (·.1) = none := by rfl) (h2 : (assignEach [.Name x px, .Name y py] X.env).map (·.2) = assign (.Name x px) X.env :: (assignEach [.Name y py] X.env).map (·.2) := by rfl) (h3 : (assignEach [.Name y py] X.env).map (·.2) = assign (.Name y py) X.env :: (assignEach [] X.env).map (·.2) := by rfl) (hsa : nStar a = true := by rfl) (hsb : nStar b = true := by rfl) :
    SS X (.Assign [.Tuple [.Name x px, .Name y py] kt pt] (.Tuple [a, b] k2 pt2) pos :: r) D σ H := by
  refine ss_cons (S1.of (ps_asg pee pge hs hw h1) (ev_tup (ea_cons (ha σ H C _ fun p H1 da xs C1 s1 hq1 hl1 pa ra => ?_) (star_cons hsa))))
  have CA := C.adopt (x := .dct da) C1 s1 hq1 ⟨xs, hl1, ra⟩
  refine ea_cons (hb p da σ H1 CA _ fun q H2 db ys C2 s2 hq hl pb rb => ea_nil ⟨Nat.le_of_lt (small1000 (by show 2 ≤ 1000; decide)), fun t ht => ?_⟩) (star_cons hsb)
  have CB := CA.adopt (x := .lst db) C2 s2 hq ⟨ys, hl, rb⟩
  have st : Stp [] H2 (upd H2 t (.tup [.ref p, .ref q])) := Stp.new ht
  have CT := CB.ext st
  exact EG.of (pg_tup hc pges hn hst) ⟨t, [.ref p, .ref q], rfl, .inl (.inl upd_same), rfl, egs_name i (egs_name j (egs_nil (k p q da db _ _ (C.trk.out hq1) (CA.trk.out hq) ((CT.set i (o := some (.ref p)) (s := .v (.ref p)) rfl).set j (o := some (.ref q)) (s := .v (.ref q)) rfl) pa pb)) hN hj hy hfy h3) hN hi hx hfx h2⟩
/-- x = e, what e gives told by hand -/
theorem ss_setV (i : Nat) {x : Str} {p : Pos} (he : EE X e σ H fun v H' => SS X r D (σ.set i (some v)) H') (hN : X.N.Nodup) (hi : X.N[i]? = some x := by rfl) (hx : Loc X.env.scope x := by first | exact Or.inl rfl | exact Or.inr rfl) (hs : swapsWith e (some (.Name x p)) pos.line X.env = pure false := by rfl) (hf : X.fn x = true ∨ X.env.scope.names.lookup x = some .local := by first | exact .inl rfl | exact .inr rfl | assumption) :
    SS X (.Assign [.Name x p] e pos :: r) D σ H := ss_cons (S1.of (ps_set hN hi hx pee hs hf) he)
/-! tuples that are not told: t[k:], t + u -/
theorem de_tupFromP {k : Nat} {p2 : Pos} {Pd : List PyData → Prop} (ha : DE X W S G δ a (fun z => ∃ ds, z = .tuple ds ∧ Pd ds)) (hb : DE X W S G δ b (fun z => z = .int ((k + 1 : Nat) : Int))) (hz : ∀ ds, Pd ds → ds ≠ []) : DE X W S G δ (.Subscript a (.Slice (some b) none none p2) pos) (fun z => ∃ ds, z = .tuple (ds.drop (k + 1)) ∧ Pd ds) := fun σ H C Q q =>
  EE.of (pe_slice sl_tup pee (po_some pee) po_none) (ha σ H C _ fun u H1 da C1 s1 ⟨ds, ea, pd⟩ ra => hb σ H1 C1 _ fun w H2 db C2 s2 pb rb => by
    subst ea pb
    have rb : w = .int ((k + 1 : Nat) : Int) := rb
    obtain ⟨p, xs, rfl, ht, rs⟩ := C1.mv s2 ra
    have hl := rs.len
    refine ⟨_, rb, p, xs, rfl, ht.sq, ?_, fun l hl => ?_⟩
    · rw [HT.sIx_nat]
      have h0 : 0 < ds.length := List.length_pos_iff.mpr (hz ds pd)
      omega
    · have st : Stp [] H2 (upd H2 l (.tup (cutV xs (some ((k + 1 : Nat) : Int)) none))) := Stp.new hl
      refine q _ _ _ (C2.ext st) ((s1.trans s2).trans st.nil) ⟨ds, rfl, pd⟩ ⟨l, xs.drop (k + 1), rfl, .inl ⟨C2.trk.out hl, by rw [← cutV_from]; exact upd_same⟩, ?_⟩
      exact (rs.drop (k + 1)).mv (st.mv fun x hx => by cases hx))
theorem de_catTP {Pd Pe : List PyData → Prop} (ha : DE X W S G δ a (fun z => ∃ l, z = .tuple l ∧ Pd l)) (hb : DE X W S G δ b (fun z => ∃ l, z = .tuple l ∧ Pe l)) (hz : ∀ l, Pd l → l ≠ []) (hl : ∀ l m, Pd l → Pe m → l.length + m.length ≤ 1000) : DE X W S G δ (.BinOp a .Add b pos) (fun z => ∃ l m, z = .tuple (l ++ m) ∧ Pd l ∧ Pe m) := de_op op_catT ha hb fun da db ⟨l1, e1, p1⟩ ⟨l2, e2, p2⟩ => by
  rw [e1, e2]
  intro H u w t ra rb Q q
  obtain ⟨p, xs, rfl, h1, r1⟩ := ra
  obtain ⟨p2', ys, rfl, h2, r2⟩ := rb
  refine ⟨p, p2', xs, ys, rfl, rfl, h1.sq, h2.sq, fun z => hz l1 p1 ?_, by rw [r1.len, r2.len]; exact Nat.le_of_lt (small1000 (hl l1 l2 p1 p2)), fun z => ?_, fun z l hl => ?_⟩
  · have := r1.len
    rw [z] at this
    exact List.length_eq_zero_iff.mp this.symm
  · have h0 := r2.len
    rw [z] at h0
    have h0 := List.length_eq_zero_iff.mp h0.symm
    exact q _ H (.tuple (l1 ++ l2)) .refl ⟨l1, l2, rfl, p1, p2⟩ (by rw [h0, List.append_nil]; exact ⟨p, xs, rfl, h1, r1⟩)
  · have st : Stp [] H (upd H l (.tup (xs ++ ys))) := Stp.new hl
    exact q _ _ (.tuple (l1 ++ l2)) st ⟨l1, l2, rfl, p1, p2⟩ ⟨l, xs ++ ys, rfl, .inl ⟨t.out hl, upd_same⟩, (r1.app r2).mv (st.mv fun x hx => by cases hx)⟩
/-- == of data that == tells apart, not told -/
theorem be_eqP (ha : DE X W S G δ a Pa) (hb : DE X W S G δ b Pb) (h : ∀ x y, Pa x → Pb y → sc x y = true) : BE X W S G δ (.Compare a [.Eq] [b] pos) (fun _ => True) := be_cmp op_eq (nomark _) ha hb fun x y e1 e2 => by
  have h := h x y e1 e2
  simp only [sc, Bool.and_eq_true] at h
  refine fun H u w t ra rb Q q => ⟨by rw [fV_eq h.1.1 ra, fV_eq h.1.2 rb]; exact h.2, ?_⟩
  rw [fV_eq h.1.1 ra, fV_eq h.1.2 rb]
  exact q _ H (.bool (decide (fV x = fV y))) .refl ⟨_, rfl, True.intro⟩ rfl
/-! xs == [], xs != [] for any items -/
def rNilR (K : PySem.W.Frag) (neg : Bool) : R2 := fun x y H Q => ∃ (p l : Addr) (xs : List V), x = .ref p ∧ y = .ref l ∧ SqL K H p xs ∧ SqL K H l [] ∧ Q (.bl (if neg then !xs.isEmpty else xs.isEmpty)) H
theorem op_eqNil (hu : X.A.units + 64 < cLine) : OpR X (compareOp .Eq) (rNilR X.K false) := by
  intro pins s σ H x y v u Q I rx ry h
  obtain ⟨p, l, xs, rfl, rfl, h1, h2, q⟩ := h
  cases rx
  cases ry
  obtain ⟨i1, r1, p1, _⟩ := I.list h1
  obtain ⟨i2, r2, p2, _⟩ := I.list h2
  have e2 : i2 = [] := by cases r2; rfl
  subst e2
  have hl := r1.length
  have b1 := p1.isList
  have b2 := p2.isList
  cases xs with
  | nil =>
    have e1 : i1 = [] := by cases r1; rfl
    subst e1
    exact SeqAt.eq_listAt (e := fun _ => true) b1 b2 rfl (by omega) (fun j h1 h2 => absurd h1 (by simp)) ⟨.bl true, H, I, rfl, q⟩
  | cons a xs =>
    refine SeqAt.eq_list_lengthsAt b1 b2 ?_ (by omega) ⟨.bl false, H, I, rfl, q⟩
    rw [List.length_cons] at hl
    simp only [List.size_toArray, List.length_nil, bne_iff_ne, ne_eq]
    omega
theorem op_neNil (hu : X.A.units + 64 < cLine) : OpR X (compareOp .NotEq) (rNilR X.K true) := by
  intro pins s σ H x y v u Q I rx ry h
  obtain ⟨p, l, xs, rfl, rfl, h1, h2, q⟩ := h
  cases rx
  cases ry
  obtain ⟨i1, r1, p1, _⟩ := I.list h1
  obtain ⟨i2, r2, p2, _⟩ := I.list h2
  have e2 : i2 = [] := by cases r2; rfl
  subst e2
  have hl := r1.length
  have b1 := p1.isList
  have b2 := p2.isList
  cases xs with
  | nil =>
    have e1 : i1 = [] := by cases r1; rfl
    subst e1
    exact SeqAt.RcNeAt.lists (e := fun _ => true) b1 b2 rfl (by omega) (fun j h1 h2 => absurd h1 (by simp)) X.prog X.w _ _ ⟨.bl false, H, I, rfl, q⟩
  | cons a xs =>
    refine SeqAt.RcNeAt.lists_lengths b1 b2 ?_ (by omega) X.prog X.w _ _ ⟨.bl true, H, I, rfl, q⟩
    rw [List.length_cons] at hl
    simp only [List.size_toArray, List.length_nil, bne_iff_ne, ne_eq]
    omega
theorem be_nilA {neg : Bool} {op : CmpOp} {p : Pos} (ho : OpR X (compareOp op) (rNilR X.K neg)) (hm : behindInMarks op (.List [] p) = false) {Pd : List PyData → Prop} (ha : DR X W S G δ a (fun z => ∃ ds, z = .list ds ∧ Pd ds)) : BE X W S G δ (.Compare a [op] [.List [] p] pos) (fun k => ∃ ds : List PyData, Pd ds ∧ k = if neg then !ds.isEmpty else ds.isEmpty) := fun σ H C Q q =>
  ET.of (pt_cmpR ho pee (pe_lst pa_nil) hm) (ha σ H C _ fun u H1 da C1 s1 ⟨ds, pa, pd⟩ ra => ⟨Nat.zero_le _, fun l hl => by
    subst pa
    have st : Stp [] H1 (upd H1 l (.lst [])) := Stp.new hl
    obtain ⟨a0, xs, rfl, ⟨n, hp⟩, rs⟩ := ra
    have hal : a0 ≠ l := ne_of_none hp hl
    refine ⟨a0, l, xs, rfl, rfl, .inl (.inl (by rw [upd_ne hal]; exact hp)), .inl (.inl upd_same), _, rfl, ?_⟩
    have hlen := rs.len
    refine q _ _ (C1.ext st) (s1.trans st.nil) ⟨ds, pd, ?_⟩
    cases ds with
    | nil =>
      have : xs = [] := List.length_eq_zero_iff.mp hlen
      rw [this]; rfl
    | cons d ds =>
      cases xs with
      | nil => cases hlen
      | cons x xs => rfl⟩)
theorem be_noL {p : Pos} (hu : X.A.units + 64 < cLine) (ha : DR X W S G δ a (fun z => z = .list ds)) : BE X W S G δ (.Compare a [.NotEq] [.List [] p] pos) (fun k => k = !ds.isEmpty) := BE.imp (be_nilA (Pd := fun l => l = ds) (op_neNil hu) (nomark _) (fun σ H C Q q => ha σ H C Q fun v H' d C' st e r => q v H' d C' st ⟨ds, e, rfl⟩ r)) fun b ⟨l, e, h⟩ => by rw [h, e]; rfl
theorem be_isL {p : Pos} (hu : X.A.units + 64 < cLine) (ha : DR X W S G δ a (fun z => z = .list ds)) : BE X W S G δ (.Compare a [.Eq] [.List [] p] pos) (fun k => k = ds.isEmpty) := BE.imp (be_nilA (Pd := fun l => l = ds) (op_eqNil hu) (nomark _) (fun σ H C Q q => ha σ H C Q fun v H' d C' st e r => q v H' d C' st ⟨ds, e, rfl⟩ r)) fun b ⟨l, e, h⟩ => by rw [h, e]; rfl
/-! displays told by a ghost -/
section
variable {ι : Type} {Pi : ι → Prop} {g : ι → List PyData} {h0 : ι → PyData}
theorem da_consG (h : DE X W S G δ e (fun z => z = d)) (hr : DAs X W S G δ es (fun r => ∃ i, Pi i ∧ r = g i)) (hs : starEach (e :: es) X.env = (false, eval e X.env) :: starEach es X.env := by exact star_cons rfl) : DAs X W S G δ (e :: es) (fun r => ∃ i, Pi i ∧ r = d :: g i) :=
  (da_cons h hr hs).imp fun r ⟨x, r', e1, e2, i, pi, e3⟩ => ⟨i, pi, by rw [e1, e2, e3]⟩
theorem da_lastG (h : DE X W S G δ e (fun z => ∃ i, Pi i ∧ z = h0 i)) (hs : starEach [e] X.env = (false, eval e X.env) :: starEach [] X.env := by exact star_cons rfl) : DAs X W S G δ [e] (fun r => ∃ i, Pi i ∧ r = [h0 i]) :=
  (da_cons h da_nil hs).imp fun r ⟨x, r', e1, ⟨i, pi, e2⟩, e3⟩ => ⟨i, pi, by rw [e1, e2, e3]⟩
theorem da_consH (h : DE X W S G δ e (fun z => ∃ i, Pi i ∧ z = h0 i)) (hr : DAs X W S G δ es (fun r => r = ds)) (hs : starEach (e :: es) X.env = (false, eval e X.env) :: starEach es X.env := by exact star_cons rfl) : DAs X W S G δ (e :: es) (fun r => ∃ i, Pi i ∧ r = h0 i :: ds) :=
  (da_cons h hr hs).imp fun r ⟨x, r', e1, ⟨i, pi, e2⟩, e3⟩ => ⟨i, pi, by rw [e1, e2, e3]⟩
theorem de_tupG {x1} (h : DAs X W S G δ es (fun r => ∃ i, Pi i ∧ r = g i)) (hl : ∀ i, Pi i → (g i).length ≤ 1000 := by intro i _; simp only [List.length_cons, List.length_nil]; decide) : DE X W S G δ (.Tuple es x1 pos) (fun z => ∃ i, Pi i ∧ z = .tuple (g i)) :=
  (de_tupP (Ps := fun r => ∃ i, Pi i ∧ r = g i) h (fun ds ⟨i, pi, e⟩ => by rw [e]; exact hl i pi)).imp fun z ⟨ds, e, i, pi, e2⟩ => ⟨i, pi, by rw [e, e2]⟩
theorem de_lstG (h : DAs X W S G δ es (fun r => ∃ i, Pi i ∧ r = g i)) (hl : ∀ i, Pi i → (g i).length ≤ 1000 := by intro i _; simp only [List.length_cons, List.length_nil]; decide) : DE X W S G δ (.List es pos) (fun z => ∃ i, Pi i ∧ z = .list (g i)) :=
  (de_lst (Ps := fun r => ∃ i, Pi i ∧ r = g i) h (fun ds ⟨i, pi, e⟩ => by rw [e]; exact hl i pi)).imp fun z ⟨ds, e, i, pi, e2⟩ => ⟨i, pi, by rw [e, e2]⟩
end
end
end Dl
/-! text A28 -/
set_option Elab.async false
set_option linter.all false
set_option maxRecDepth 100000
set_option maxHeartbeats 1000000
namespace K53
open PySem PySem.Spec PyProof.Rows L2 Dl
local macro_rules | `(tactic| walk_at "fl") => `(tactic| first | rfl | assumption | (simp only [*]; done) | decide)
theorem OpD.v_flat {L : List Nat} {o : OpI} (h : OpD L o) : flat o.v = true := by
  by_cases z : o.srt = .none
  · rw [h.non z]; rfl
  · obtain ⟨n, e, _⟩ := h.val z
    rw [e]; rfl
theorem OpD.num {L : List Nat} {o : OpI} (h : OpD L o) (hv : o.v ≠ .none) : ∃ n : Nat, o.v = .int (n : Int) ∧ ∀ k : Nat, .tuple [.str "v", .int (k : Int)] ∈ o.args → L.idxOf n < L.idxOf k :=
  h.val fun z => hv (h.non z)
theorem OpD.srt_ne {L : List Nat} {o : OpI} (h : OpD L o) (hv : o.v ≠ .none) : o.srt ≠ .none := fun z => hv (h.non z)
theorem isNn_f {d : PyData} (h : true = !isNn d) : d ≠ .none := fun z => by rw [z] at h; cases h
def forBody : Stmt → List Stmt
  | .For _ _ b _ _ => b
  | _ => []
def spB1 : List Stmt := forBody ((defBody s_L_spiced).getD 1 (.Pass ⟨0, 0, 0, 0⟩))
def spB2 : List Stmt := forBody (spB1.getD 1 (.Pass ⟨0, 0, 0, 0⟩))
abbrev sP (dl bp : Addr) (f : FnR) (lab par ops en so op like one fm wd wi nb ar : Sl) : List Sl := [.v (.ref dl), .d f.d, .v (.ref bp), lab, par, ops, en, so, op, like, one, fm, wd, wi, nb, ar]
section
variable {X : Cx} {W : Wd} {S : List Addr} {G : List (Addr × MO)} {δ : List Sl} {e : Expr} {pos p pd : Pos} {dl cl : Addr}
/-- _law_of(_law_deal, e), e not told -/
theorem de_ofP {Pl : List PyData → Prop} (F : DefOk X.prog X.w X.K X.mg X.base 2 "_law_of" ["_law_deal", "_law_some"] (spM X.K preOf (fun l d => d ∈ l))) (hr : Room 2 X.A) (hW : W.M = [dl, cl]) (hd : δ[0]? = some (.v (.ref dl))) (he : DE X W S G δ e (fun y => ∃ l, y = .list l ∧ Pl l)) (h0 : ∀ l, Pl l → l ≠ [] ∧ l.length ≤ 1000)
    (hN : X.N[0]? = some ("_law_deal" : Str) := by rfl) (hv : Vis X.env.scope ("_law_deal" : Str) := by first | exact Or.inl rfl | exact Or.inr (Or.inl rfl) | exact Or.inr (Or.inr rfl)) (hg : Gl X "_law_of" := by rfl)
    (hse : starEach [e] X.env = (false, eval e X.env) :: starEach [] X.env := by exact star_cons rfl) (hsd : starEach [.Name "_law_deal" pd, e] X.env = (false, eval (.Name "_law_deal" pd) X.env) :: starEach [e] X.env := by exact star_cons rfl) (hpl : (backTo pos (starEach [e] X.env)).any (·.1) = false := by exact back_plain rfl) : DE X W S G δ (.Call (.Name "_law_of" p) [.Name "_law_deal" pd, e] [] pos) (fun d => ∃ l, Pl l ∧ d ∈ l) :=
  de_callM 0 hW hd F hr (da_cons he da_nil hse) (fun ds ⟨d, r, e1, ⟨l, e2, pl⟩, e3⟩ => ⟨l, ⟨by rw [e1, e2, e3], (h0 l pl).1, (h0 l pl).2⟩, fun z q => ⟨l, pl, q⟩⟩) hN hv (by decide) (by decide) hg (by decide) hsd hpl
end
section
variable {P : Program} {w : World} {K : PySem.W.Frag} {mg : Str → Option Value} {base : Heap}
abbrev xS (P : Program) (w : World) (K : PySem.W.Frag) (mg : Str → Option Value) (base : Heap) (cdv : Value) (A : Around) (outer : List Env) (s : Shared) (H0 : Hp) (E : XK) : Cx := (cxOf CX0 P w K mg base ["_law_deal", "_law_function_here", "_law_blocks", "_law_label", "_law_params", "_law_ops", "_law_ending", "_law_some", "_law_op", "_law_like", "_law_one", "_law_form_here", "_law_word", "_law_wide", "_law_number_here", "_law_args"] "_law_spiced" (defScope s_L_spiced) (He.ga K "_law_spiced") cdv A outer s H0 E).nox
theorem isIn_2 {k : Str} (h : isIn (.str k) [.str "bin", .str "cmp"] = true) : k = "bin" ∨ k = "cmp" := by
  by_cases h1 : k = "bin"
  · exact .inl h1
  · by_cases h2 : k = "cmp"
    · exact .inr h2
    · have e1 : ¬ (Str.ofString "bin" : Str) = k := fun z => h1 z.symm
      have e2 : ¬ (Str.ofString "cmp" : Str) = k := fun z => h2 z.symm
      simp [isIn, inV, fV, eqV, e1, e2] at h
theorem fk_bc {k : Str} {info want : List PyData} {srt : PyData} (h : Fk k info want srt) (hk : k = "bin" ∨ k = "cmp") : ∃ sw wd, info = [sw, wd] ∧ isT sw = true ∧ isW wd = true ∧ want = [wd, wd] ∧ ∀ sw', isT sw' = true → Fk k [sw', wd] [wd, wd] srt := by
  cases h with
  | bin h1 h2 => exact ⟨_, _, rfl, h1, h2, rfl, fun sw' h => .bin h h2⟩
  | cmp h1 h2 => exact ⟨_, _, rfl, h1, h2, rfl, fun sw' h => .cmp h h2⟩
  | _ => rcases hk with hk | hk <;> exact absurd hk (by decide)
theorem two_of {l : List PyData} (h : l.length = 2) : ∃ a b, l = [a, b] := by
  match l, h with
  | [a, b], _ => exact ⟨a, b, rfl⟩
theorem spice_op (T : Txt K mg) {cdv A outer s H0 E} {f : FnR} {W : Wd} {S : List Addr} {dl cl bp sp : Addr} {bs : List PyData} {os : List OpI} {op : OpI} {lab par ops en : Sl} {σ : L2.St} {H : Hp} {D : Ends} (hr : Room 4 (xS P w K mg base cdv A outer s H0 E).A) (hW : W.M = [dl, cl]) (hne : sp ≠ bp)
    (hos : ∀ o ∈ os, OpD f.L o) (hop : OpD f.L op) (hlt : ∀ one ∈ os, ∀ n m : Nat, one.v = .int (n : Int) → op.v = .int (m : Int) → f.L.idxOf m < f.L.idxOf n) (hlen : os.length ≤ 4)
    (C : Dl.Ctx K W S [(sp, .lst (os.map OpI.d)), (bp, .lst bs)] (sP dl bp f lab par ops en (.v (.ref sp)) (.d op.d) .u .u .u .u .u .u .u) σ H)
    (k : ∀ o' σ' H', OpD f.L o' → o'.v = op.v → (∀ l fm wd wi nb ar, Dl.Ctx K W S [(sp, .lst (os.map OpI.d ++ [o'.d])), (bp, .lst bs)] (sP dl bp f lab par ops en (.v (.ref sp)) (.d o'.d) l .u fm wd wi nb ar) σ' H' → D.nx σ' H')) :
    SS (xS P w K mg base cdv A outer s H0 E) spB2 D σ H := by
  have r1 : Room 1 (xS P w K mg base cdv A outer s H0 E).A := hr.mono (by decide)
  have r2 : Room 2 (xS P w K mg base cdv A outer s H0 E).A := hr.mono (by decide)
  have r3 : Room 3 (xS P w K mg base cdv A outer s H0 E).A := hr.mono (by decide)
  have hu : (xS P w K mg base cdv A outer s H0 E).A.units + 64 < cLine := by have := hr.units; omega
  have alen := hop.len
  obtain ⟨v, kind, info, args, want, srt⟩ := op
  have vfl := hop.v_flat
  dsimp only at alen vfl
  -- like
  refine ss_setLcM 9 7 (X := xS P w K mg base cdv A outer s H0 E) (own := [("_law_one", 10)]) (js := [10]) (p := sp) (ds := os.map OpI.d) C rfl List.mem_cons_self (by rw [List.length_map]; omega) (by decide) (fun i o => o = none ∨ ∃ one ∈ os, o = some one.d ∧ one.v ≠ .none ∧ v ≠ .none) (fun i d DA acc hDA hd => ?_) (fun es σ1 H1 C1 _ rel => ?_) rfl sc_L_spiced.nd bk_L_spiced_0 rfl
  · obtain ⟨one, h1, rfl⟩ : ∃ one, os[i]? = some one ∧ d = one.d := by
      rw [List.getElem?_map] at hd
      cases q : os[i]? with
      | none => rw [q] at hd; cases hd
      | some b => rw [q] at hd; cases hd; exact ⟨b, rfl, rfl⟩
    have hm := List.mem_of_getElem? h1
    have od := hos one hm
    obtain ⟨v1, kind1, info1, args1, want1, srt1⟩ := one
    refine ⟨sP dl bp f lab par ops en (.v (.ref sp)) (.d (OpI.d ⟨v, kind, info, args, want, srt⟩)) .u (.d (OpI.d ⟨v1, kind1, info1, args1, want1, srt1⟩)) .u .u .u .u .u, fun b => b = true → v1 ≠ .none ∧ v ≠ .none, fun d => d = OpI.d ⟨v1, kind1, info1, args1, want1, srt1⟩, fun s H C cl fp => gd_name 10 sc_L_spiced.nd, fun s2 H2 C2 cl2 fp2 => bes_one ?_, fun _ s2 H2 C2 cl2 fp2 => de_var 10 rfl, fun _ => .inl rfl, fun d' pt e => .inr ⟨_, hm, by rw [e], pt rfl⟩⟩
    refine be_bw (bw_and (P1 := fun b => b = !isNn v1) (P2 := fun b => b = true → v ≠ .none) (be_isnot (de_ix (da := OpI.d ⟨v1, kind1, info1, args1, want1, srt1⟩) (de_var 10 rfl) de_int rfl)) (fun _ => bw_and (P1 := fun b => b = !isNn v) (P2 := fun _ => True) (be_isnot (de_ix (da := OpI.d ⟨v, kind, info, args, want, srt⟩) (de_var 8 rfl) de_int rfl)) (fun _ => bw_and (P1 := fun _ => True) (P2 := fun _ => True) (be_eqP (Pa := fun d => isM d = true) (Pb := fun d => isM d = true) (de_call (ok_made T) r1 (da_consE (de_var 10 rfl) da_nilE) (pre1 ⟨v1, kind1, info1, args1, want1, srt1⟩ ⟨rfl, od.w⟩ fun d p => p)) (de_call (ok_made T) r1 (da_consE (de_var 8 rfl) da_nilE) (pre1 ⟨v, kind, info, args, want, srt⟩ ⟨rfl, hop.w⟩ fun d p => p)) fun x y => isM_sc) (fun _ => bw_and1 (be_val (DE.imp (de_call (P := fun d => ∃ b, d = .bool b) (ok_pure T) r1 (da_consE (de_var 10 rfl) da_nilE) (pre1 ⟨v1, kind1, info1, args1, want1, srt1⟩ ⟨rfl, od.w⟩ fun d p => p)) fun d ⟨b, e⟩ => ⟨b, e, True.intro⟩))) (fun _ => True.intro) (fun _ _ _ => True.intro)) (fun _ z => by cases z) (fun c h _ _ => isNn_f h)) (fun _ z => by cases z) (fun c h h2 z => ⟨isNn_f h, h2 z⟩))
  have hes : ∀ d ∈ es, ∃ one ∈ os, d = one.d ∧ one.v ≠ .none ∧ v ≠ .none := LcRel.mem (fun i e h => by
    rcases h with h | ⟨one, h1, h2, h3⟩
    · cases h
    · cases h2; exact ⟨one, h1, rfl, h3⟩) rel
  have hesl := rel.len
  rw [List.length_map] at hesl
  refine ss_set 11 (X := xS P w K mg base cdv A outer s H0 E) C1 (de_any (ok_any T) r1 hW rfl de_int) (fun d σ2 H2 C2 _ ⟨fm, e2, f0, f1⟩ => ?_) sc_L_spiced.nd
  subst e2
  -- the end: the op is added
  have fin : ∀ {σ3 : L2.St} {H3 : Hp} (o' : OpI) (wd wi nb ar : Sl), OpD f.L o' → o'.v = v → Dl.Ctx K W S [(sp, .lst (os.map OpI.d)), (bp, .lst bs)] (sP dl bp f lab par ops en (.v (.ref sp)) (.d o'.d) (.d (.list es)) .u (.d (.int fm)) wd wi nb ar) σ3 H3 → SS (xS P w K mg base cdv A outer s H0 E) (spB2.drop 3) D σ3 H3 := fun {σ3 H3} o' wd wi nb ar ho hv C3 => by
    refine ss_append 7 (X := xS P w K mg base cdv A outer s H0 E) C3 rfl (by rw [List.length_map]; omega) (fun z hz e => hne (by rw [List.mem_singleton.mp hz] at e; exact e.symm)) (de_var 8 rfl) (fun d σ4 H4 C4 _ e => ?_)
    subst e
    exact ss_nil (k o' σ4 H4 ho hv _ _ _ _ _ _ C4)
  have hnum : es ≠ [] → ∃ n : Nat, v = .int (n : Int) ∧ ∀ k : Nat, .tuple [.str "v", .int (k : Int)] ∈ args → f.L.idxOf n < f.L.idxOf k := fun h => by
    cases es with
    | nil => exact absurd rfl h
    | cons d es =>
      obtain ⟨_, _, _, _, h2⟩ := hes d List.mem_cons_self
      exact hop.num h2
  refine ss_if (X := xS P w K mg base cdv A outer s H0 E) (Pt := fun b => b = true → es ≠ []) C2 (be_bw (bw_and (P1 := fun b => b = !es.isEmpty) (P2 := fun _ => True) (be_noL hu (de_var 9 rfl).dr) (fun _ => bw_and (P1 := fun _ => True) (P2 := fun _ => True) (be_val (DE.imp (de_call (P := fun d => ∃ b, d = .bool b) (ok_pure T) r1 (da_consE (de_var 8 rfl) da_nilE) (pre1 ⟨v, kind, info, args, want, srt⟩ ⟨rfl, hop.w⟩ fun d p => p)) fun d ⟨b, e⟩ => ⟨b, e, True.intro⟩)) (fun _ => bw_and1 ((be_lt (de_var 11 rfl) de_int).imp fun _ _ => True.intro)) (fun _ => True.intro) (fun _ _ _ => True.intro)) (fun _ z => by cases z) (fun c h _ _ z => by rw [z] at h; cases h))) (fun H3 C3 _ hne1 => ?_) (fun H3 C3 _ _ => ?_)
  · -- like another one
    have hne1 := hne1 rfl
    obtain ⟨n, hn, hargs⟩ := hnum hne1
    refine ss_set 8 (X := xS P w K mg base cdv A outer s H0 E) C3 (P := fun d => ∃ o' : OpI, d = o'.d ∧ OpD f.L o' ∧ o'.v = v) (DE.imp (de_catTP (Pd := fun l => l = [v]) (Pe := fun l => ∃ one ∈ os, l = [.str one.kind, .tuple one.info, .tuple one.args] ∧ one.v ≠ .none) (DE.imp (de_tupE (da_consE (de_ix (da := OpI.d ⟨v, kind, info, args, want, srt⟩) (d := v) (de_var 8 rfl) de_int rfl) da_nilE)) fun d e => ⟨_, e, rfl⟩) (DE.imp (de_tupFromP (k := 0) (Pd := fun l => ∃ one ∈ os, l = [one.v, .str one.kind, .tuple one.info, .tuple one.args] ∧ one.v ≠ .none) (DE.imp (de_of (l := es) (ok_of T) r2 hW rfl (de_var 9 rfl) hne1 (by omega)) fun d hd => by
      obtain ⟨one, h1, e, h2, _⟩ := hes d hd
      exact ⟨_, e, one, h1, rfl, h2⟩) de_int (fun l ⟨one, _, e, _⟩ => by rw [e]; simp)) fun d ⟨l, e, one, h1, e2, h2⟩ => ⟨_, e, one, h1, by rw [e2]; rfl, h2⟩) (fun l e => by rw [e]; simp) (fun l m e ⟨one, _, e2, _⟩ => by rw [e, e2]; simp)) fun d ⟨l, m, e, el, one, h1, em, h2⟩ => ?_) (fun d σ4 H4 C4 _ ⟨o', e, h1, h2⟩ => ?_) sc_L_spiced.nd
    · have od := hos one h1
      obtain ⟨n1, e1, a1⟩ := od.num h2
      refine ⟨⟨v, one.kind, one.info, one.args, one.want, one.srt⟩, by rw [e, el, em]; rfl, ⟨od.fk, od.len, od.arg, fun z => absurd z (od.srt_ne h2), fun _ => ⟨n, hn, fun k hk => Nat.lt_trans (hlt one h1 n1 n e1 hn) (a1 k hk)⟩⟩, rfl⟩
    · subst e
      exact ss_nil (fin o' .u .u .u .u h1 h2 C4)
  refine ss_if (X := xS P w K mg base cdv A outer s H0 E) (Pt := fun b => b = true → es ≠ [] ∧ kind = "bin") C3 (be_bw (bw_and (P1 := fun b => b = !es.isEmpty) (P2 := fun b => b = true → kind = "bin") (be_noL hu (de_var 9 rfl).dr) (fun _ => bw_and (P1 := fun b => b = true → kind = "bin") (P2 := fun _ => True) ((be_eq (de_ix (da := OpI.d ⟨v, kind, info, args, want, srt⟩) (d := .str kind) (de_var 8 rfl) de_int rfl) de_str rfl).imp fun b e z => str_eq (by rw [← e]; exact z)) (fun _ => bw_and1 ((be_gt (de_var 11 rfl) de_int).imp fun _ _ => True.intro)) (fun _ z => by cases z) (fun c h _ _ => h rfl)) (fun _ z => by cases z) (fun c h h2 z => ⟨fun e => (by rw [e] at h; cases h), h2 z⟩))) (fun H4 C4 _ hb => ?_) (fun H4 C4 _ _ => ?_)
  · -- a division by another one
    obtain ⟨hne1, hkind⟩ := hb rfl
    obtain ⟨n, hn, hargs⟩ := hnum hne1
    obtain ⟨sw, wd, rfl, hsw, hwd, rfl, hfk⟩ := fk_bc hop.fk (.inl hkind)
    obtain ⟨a1, a2, rfl⟩ := two_of (show args.length = 2 from alen)
    subst hkind
    refine ss_set 12 (X := xS P w K mg base cdv A outer s H0 E) C4 (DE.imp (P := fun d => isT d = true) (de_of (l := [.str "udiv", .str "sdiv", .str "urem", sw]) (ok_of T) r2 hW rfl (de_lstE (da_consE de_str (da_consE de_str (da_consE de_str (da_consE (de_ix (da := .tuple [sw, wd]) (de_ix (da := OpI.d ⟨v, "bin", [sw, wd], [a1, a2], [wd, wd], srt⟩) (d := .tuple [sw, wd]) (de_var 8 rfl) de_int rfl) de_int rfl) da_nilE)))))) fun d hd => ?_) (fun dw σ5 H5 C5 _ hdw => ?_) sc_L_spiced.nd
    · simp only [List.mem_cons, List.not_mem_nil, or_false] at hd
      rcases hd with e | e | e | e
      · rw [e]; rfl
      · rw [e]; rfl
      · rw [e]; rfl
      · rw [e]; exact hsw
    refine ss_set 8 (X := xS P w K mg base cdv A outer s H0 E) C5 (P := fun d => ∃ one : OpI, (one ∈ os ∧ one.v ≠ .none) ∧ d = OpI.d ⟨v, "bin", [dw, wd], [a1, .tuple [.str "v", one.v]], [wd, wd], srt⟩) ?_ (fun d σ6 H6 C6 _ ⟨one, ⟨h1, h2⟩, e⟩ => ?_) sc_L_spiced.nd
    · refine DE.imp (de_tupG (Pi := fun one : OpI => one ∈ os ∧ one.v ≠ .none) (g := fun one : OpI => [v, .str "bin", .tuple [dw, wd], .tuple [a1, .tuple [.str "v", one.v]]]) ?_) (fun d h => h)
      refine da_consG (g := fun one : OpI => [.str "bin", .tuple [dw, wd], .tuple [a1, .tuple [.str "v", one.v]]]) (de_ix (da := OpI.d ⟨v, "bin", [sw, wd], [a1, a2], [wd, wd], srt⟩) (d := v) (de_var 8 rfl) de_int rfl) ?_
      refine da_consG (g := fun one : OpI => [.tuple [dw, wd], .tuple [a1, .tuple [.str "v", one.v]]]) de_str ?_
      refine da_consG (g := fun one : OpI => [.tuple [a1, .tuple [.str "v", one.v]]]) (de_tupE (da_consE (de_var 12 rfl) (da_consE (de_ix (da := .tuple [sw, wd]) (d := wd) (de_ix (da := OpI.d ⟨v, "bin", [sw, wd], [a1, a2], [wd, wd], srt⟩) (d := .tuple [sw, wd]) (de_var 8 rfl) de_int rfl) de_int rfl) da_nilE))) ?_
      refine da_lastG (h0 := fun one : OpI => .tuple [a1, .tuple [.str "v", one.v]]) (de_tupG (g := fun one : OpI => [a1, .tuple [.str "v", one.v]]) ?_)
      refine da_consG (g := fun one : OpI => [.tuple [.str "v", one.v]]) (de_ix (da := .tuple [a1, a2]) (d := a1) (de_ix (da := OpI.d ⟨v, "bin", [sw, wd], [a1, a2], [wd, wd], srt⟩) (d := .tuple [a1, a2]) (de_var 8 rfl) de_int rfl) de_int rfl) ?_
      refine da_lastG (h0 := fun one : OpI => .tuple [.str "v", one.v]) (de_tupG (g := fun one : OpI => [.str "v", one.v]) ?_)
      refine da_consG (g := fun one : OpI => [one.v]) de_str ?_
      refine da_lastG (h0 := fun one : OpI => one.v) (de_ixP (Pb := fun z => z = .int 0) (de_of (l := es) (ok_of T) r2 hW rfl (de_var 9 rfl) hne1 (by omega)) de_int fun da di hda hdi => ?_)
      obtain ⟨one, h1, e, h2, _⟩ := hes da hda
      subst hdi
      rw [e]
      exact ⟨one.v, rfl, one, ⟨h1, h2⟩, rfl⟩
    · subst e
      have od := hos one h1
      obtain ⟨n1, e1, _⟩ := od.num h2
      refine ss_nil (ss_nil (fin ⟨v, "bin", [dw, wd], [a1, .tuple [.str "v", one.v]], [wd, wd], srt⟩ _ _ _ _ ⟨hfk dw hdw, rfl, fun a ha => ?_, hop.non, fun _ => ⟨n, hn, fun k hk => ?_⟩⟩ rfl C6))
      · simp only [List.mem_cons, List.not_mem_nil, or_false] at ha
        rcases ha with rfl | rfl
        · exact hop.arg _ (by simp)
        · exact .inl ⟨n1, by rw [e1]⟩
      · simp only [List.mem_cons, List.not_mem_nil, or_false] at hk
        rcases hk with hk | hk
        · exact hargs k (by rw [hk]; simp)
        · injection hk with hk
          injection hk with _ hk
          injection hk with hk _
          rw [e1] at hk
          injection hk with hk
          have : k = n1 := by omega
          rw [this]
          exact hlt one h1 n1 n e1 hn
  refine ss_if (X := xS P w K mg base cdv A outer s H0 E) (Pt := fun b => b = true → kind = "bin" ∨ kind = "cmp") C4 (be_bw (bw_and (P1 := fun b => b = true → kind = "bin" ∨ kind = "cmp") (P2 := fun _ => True) ((be_in rfl (de_ix (da := OpI.d ⟨v, kind, info, args, want, srt⟩) (d := .str kind) (de_var 8 rfl) de_int rfl) de_lit rfl rfl).imp fun b e z => isIn_2 (by rw [← z, e])) (fun _ => bw_and1 ((be_lt (de_var 11 rfl) de_int).imp fun _ _ => True.intro)) (fun _ z => by cases z) (fun c h _ _ => h rfl))) (fun H5 C5 _ hb => ?_) (fun H5 C5 _ _ => ss_nil (ss_nil (ss_nil (fin ⟨v, kind, info, args, want, srt⟩ .u .u .u .u hop rfl C5))))
  -- special numbers
  obtain ⟨sw, wd, rfl, hsw, hwd, rfl, hfk⟩ := fk_bc hop.fk (hb rfl)
  obtain ⟨a1, a2, rfl⟩ := two_of (show args.length = 2 from alen)
  obtain ⟨nw, rfl, hnw⟩ := isW_nat hwd
  refine ss_par 13 10 (X := xS P w K mg base cdv A outer s H0 E) (Pa := fun y => y = .int (nw : Int)) (Pb := fun y => y = a1) C5 (de_ix (da := .tuple [sw, .int (nw : Int)]) (de_ix (da := OpI.d ⟨v, kind, [sw, .int (nw : Int)], [a1, a2], [.int (nw : Int), .int (nw : Int)], srt⟩) (d := .tuple [sw, .int (nw : Int)]) (de_var 8 rfl) de_int rfl) de_int rfl) (fun _ _ => de_ix (da := .tuple [a1, a2]) (de_ix (da := OpI.d ⟨v, kind, [sw, .int (nw : Int)], [a1, a2], [.int (nw : Int), .int (nw : Int)], srt⟩) (d := .tuple [a1, a2]) (de_var 8 rfl) de_int rfl) de_int rfl) (fun da db σ6 H6 C6 _ e1 e2 => ?_) rfl sc_L_spiced.nd (by decide) (ps_par rfl sc_L_spiced.nd rfl rfl (by decide) rfl rfl (pa_cons pee (pa_cons pee pa_nil)) (by rfl))
  subst e1
  replace e2 := e2.symm
  subst e2
  have pw : ∀ {S' G' δ' W' pos p1 p2}, δ'[13]? = some (.d (.int (nw : Int))) → DE (xS P w K mg base cdv A outer s H0 E) W' S' G' δ' (.Call (.Name "_law_power" pos) [.Name "_law_wide" p1] [] p2) (fun y => y = .int ((2 : Int) ^ nw)) := fun h => de_call (ok_power T) r1 (da_consE (de_var 13 h) da_nilE) (pre1 nw ⟨rfl, hnw⟩ fun d p => p)
  refine ss_set 14 (X := xS P w K mg base cdv A outer s H0 E) C6 (P := fun d => ∃ i : Int, True ∧ d = .tuple [.str "n", .int i]) ?_ (fun d σ7 H7 C7 _ ⟨i, _, e⟩ => ?_) sc_L_spiced.nd
  · refine DE.imp (de_tupG (Pi := fun _ : Int => True) (g := fun i : Int => [.str "n", .int i]) ?_) (fun d h => h)
    refine da_consG (g := fun i : Int => [.int i]) de_str ?_
    refine da_lastG (h0 := fun i : Int => .int i) ?_
    refine DE.imp (de_ofP (Pl := fun l => l ≠ [] ∧ l.length ≤ 1000 ∧ ∀ z ∈ l, Anyint z) (ok_of T) r2 hW rfl ?_ (fun l h => ⟨h.1, h.2.1⟩)) fun d ⟨l, h, hd⟩ => ?_
    · refine DE.imp (de_lstG (Pi := fun _ : Int => True) (g := fun i : Int => [.int 0, .int 1, .int ((2 : Int) ^ nw - 1), .int ((2 : Int) ^ nw / 2), .int i]) ?_) fun d ⟨i, _, e⟩ => ⟨_, e, by simp, by simp, fun z hz => ?_⟩
      · refine da_consG (g := fun i : Int => [.int 1, .int ((2 : Int) ^ nw - 1), .int ((2 : Int) ^ nw / 2), .int i]) de_int ?_
        refine da_consG (g := fun i : Int => [.int ((2 : Int) ^ nw - 1), .int ((2 : Int) ^ nw / 2), .int i]) de_int ?_
        refine da_consG (g := fun i : Int => [.int ((2 : Int) ^ nw / 2), .int i]) (de_sub (pw rfl) de_int) ?_
        refine da_consG (g := fun i : Int => [.int i]) (de_fdivW (pw rfl) de_int (by exact ⟨by decide, by decide⟩)) ?_
        exact da_lastG (h0 := fun i : Int => .int i) (DE.imp (de_callM 0 hW rfl (ok_number T) r3 (da_consE (de_var 13 rfl) da_nilE) (pre1 nw ⟨rfl, hnw⟩ fun d p => p)) fun d ⟨i, e⟩ => ⟨i, True.intro, e⟩)
      · simp only [List.mem_cons, List.not_mem_nil, or_false] at hz
        rcases hz with e | e | e | e | e <;> exact ⟨_, e⟩
    · obtain ⟨i, e⟩ := h.2.2 d hd
      exact ⟨i, True.intro, e⟩
  subst e
  refine ss_set 15 (X := xS P w K mg base cdv A outer s H0 E) C7 (P := fun d => ∃ x y : PyData, d = .tuple [x, y] ∧ (x = a1 ∨ x = a2 ∨ x = .tuple [.str "n", .int i]) ∧ (y = a1 ∨ y = a2 ∨ y = .tuple [.str "n", .int i])) (DE.imp (de_of (l := [.tuple [a1, .tuple [.str "n", .int i]], .tuple [.tuple [.str "n", .int i], a2], .tuple [a1, a1], .tuple [.tuple [.str "n", .int i], .tuple [.str "n", .int i]]]) (ok_of T) r2 hW rfl (de_lstE (da_consE (de_tupE (da_consE (de_var 10 rfl) (da_consE (de_var 14 rfl) da_nilE))) (da_consE (de_tupE (da_consE (de_var 14 rfl) (da_consE (de_ix (da := .tuple [a1, a2]) (d := a2) (de_ix (da := OpI.d ⟨v, kind, [sw, .int (nw : Int)], [a1, a2], [.int (nw : Int), .int (nw : Int)], srt⟩) (d := .tuple [a1, a2]) (de_var 8 rfl) de_int rfl) de_int rfl) da_nilE))) (da_consE (de_tupE (da_consE (de_var 10 rfl) (da_consE (de_var 10 rfl) da_nilE))) (da_consE (de_tupE (da_consE (de_var 14 rfl) (da_consE (de_var 14 rfl) da_nilE))) da_nilE)))))) fun d hd => ?_) (fun d σ8 H8 C8 _ ⟨x, y, e, hx, hy⟩ => ?_) sc_L_spiced.nd
  · simp only [List.mem_cons, List.not_mem_nil, or_false] at hd
    rcases hd with e | e | e | e
    · exact ⟨_, _, e, .inl rfl, .inr (.inr rfl)⟩
    · exact ⟨_, _, e, .inr (.inr rfl), .inr (.inl rfl)⟩
    · exact ⟨_, _, e, .inl rfl, .inl rfl⟩
    · exact ⟨_, _, e, .inr (.inr rfl), .inr (.inr rfl)⟩
  subst e
  refine ss_set 12 (X := xS P w K mg base cdv A outer s H0 E) C8 (P := fun d => isT d = true) (de_if (be_lt (de_var 11 rfl) de_int) (fun _ => (de_ix (da := .tuple [sw, .int (nw : Int)]) (d := sw) (de_ix (da := OpI.d ⟨v, kind, [sw, .int (nw : Int)], [a1, a2], [.int (nw : Int), .int (nw : Int)], srt⟩) (d := .tuple [sw, .int (nw : Int)]) (de_var 8 rfl) de_int rfl) de_int rfl).imp fun d e => by rw [e]; exact hsw) (fun _ => de_if (be_eq (de_ix (da := OpI.d ⟨v, kind, [sw, .int (nw : Int)], [a1, a2], [.int (nw : Int), .int (nw : Int)], srt⟩) (d := .str kind) (de_var 8 rfl) de_int rfl) de_str rfl) (fun _ => de_str.imp fun d e => by rw [e]; rfl) (fun _ => de_str.imp fun d e => by rw [e]; rfl))) (fun dw σ9 H9 C9 _ hdw => ?_) sc_L_spiced.nd
  refine ss_set 8 (X := xS P w K mg base cdv A outer s H0 E) C9 (de_tupE (da_consE (de_ix (da := OpI.d ⟨v, kind, [sw, .int (nw : Int)], [a1, a2], [.int (nw : Int), .int (nw : Int)], srt⟩) (d := v) (de_var 8 rfl) de_int rfl) (da_consE (de_ix (da := OpI.d ⟨v, kind, [sw, .int (nw : Int)], [a1, a2], [.int (nw : Int), .int (nw : Int)], srt⟩) (d := .str kind) (de_var 8 rfl) de_int rfl) (da_consE (de_tupE (da_consE (de_var 12 rfl) (da_consE (de_var 13 rfl) da_nilE))) (da_consE (de_var 15 rfl) da_nilE))))) (fun d σ10 H10 C10 _ e => ?_) sc_L_spiced.nd
  subst e
  have mem : ∀ z, (z = a1 ∨ z = a2 ∨ z = .tuple [.str "n", .int i]) → ArgOk z := fun z h => by
    rcases h with h | h | h
    · rw [h]; exact hop.arg _ (by simp)
    · rw [h]; exact hop.arg _ (by simp)
    · exact .inr (.inl ⟨i, h⟩)
  have memv : ∀ z (k : Nat), (z = a1 ∨ z = a2 ∨ z = .tuple [.str "n", .int i]) → PyData.tuple [.str "v", .int (k : Int)] = z → PyData.tuple [.str "v", .int (k : Int)] ∈ [a1, a2] := fun z k h e => by
    rcases h with h | h | h
    · rw [e, h]; simp
    · rw [e, h]; simp
    · rw [h] at e
      injection e with e
      injection e with e _
      injection e with e
      exact absurd e (by decide)
  have C11 : Dl.Ctx K W S [(sp, .lst (os.map OpI.d)), (bp, .lst bs)] (sP dl bp f lab par ops en (.v (.ref sp)) (.d (OpI.d ⟨v, kind, [dw, .int (nw : Int)], [x, y], [.int (nw : Int), .int (nw : Int)], srt⟩)) (.d (.list es)) .u (.d (.int fm)) (.d dw) (.d (.int (nw : Int))) (.d (.tuple [.str "n", .int i])) (.d (.tuple [x, y]))) σ10 H10 := Ctx.u (X := xS P w K mg base cdv A outer s H0 E) 10 C10
  refine ss_nil (ss_nil (ss_nil (fin ⟨v, kind, [dw, .int (nw : Int)], [x, y], [.int (nw : Int), .int (nw : Int)], srt⟩ _ _ _ _ ⟨hfk dw hdw, rfl, fun a ha => ?_, hop.non, fun hs => ?_⟩ rfl C11)))
  · simp only [List.mem_cons, List.not_mem_nil, or_false] at ha
    rcases ha with rfl | rfl
    · exact mem _ hx
    · exact mem _ hy
  · obtain ⟨n, hn, hargs⟩ := hop.val hs
    refine ⟨n, hn, fun k hk => hargs k ?_⟩
    simp only [List.mem_cons, List.not_mem_nil, or_false] at hk
    rcases hk with hk | hk
    · exact memv _ k hx hk
    · exact memv _ k hy hk
end
end K53
/-! text A29 -/
set_option Elab.async false
set_option linter.all false
set_option maxRecDepth 100000
set_option maxHeartbeats 1000000
namespace K53
open PySem PySem.Spec PyProof.Rows L2 Dl
local macro_rules | `(tactic| walk_at "fl") => `(tactic| first | rfl | assumption | (simp only [*]; done) | decide)
/-- what a spiced block keeps -/
structure SpB (L : List Nat) (b b' : BlkR) : Prop where
  lab : b'.label = b.label
  tg : b'.tg = b.tg
  ok : BlkD L b'
theorem OpsD.lt {L : List Nat} {os : List OpI} (h : OpsD L os) {j : Nat} {op : OpI} (hj : os[j]? = some op) {ov : PyData} (hv : ov ∈ (os.take j).map (·.v)) {n m : Nat} (h1 : ov = .int (n : Int)) (h2 : op.v = .int (m : Int)) : L.idxOf m < L.idxOf n := by
  obtain ⟨one, ho, e⟩ := List.mem_map.mp hv
  obtain ⟨i, hi⟩ := List.mem_iff_getElem?.mp ho
  rw [List.getElem?_take] at hi
  by_cases hij : i < j
  · rw [if_pos hij] at hi
    have d := List.pairwise_iff_getElem.mp h.dec
    obtain ⟨li, ei⟩ := List.getElem?_eq_some_iff.mp hi
    obtain ⟨lj, ej⟩ := List.getElem?_eq_some_iff.mp hj
    exact d i j li lj hij n m (by rw [ei, e, h1]) (by rw [ej, h2])
  · rw [if_neg hij] at hi; cases hi
theorem OpsD.of_v {L : List Nat} {os os' : List OpI} (h : OpsD L os) (ha : ∀ o ∈ os', OpD L o) (hv : os'.map (·.v) = os.map (·.v)) : OpsD L os' := by
  refine ⟨ha, ?_⟩
  have key : ∀ l : List OpI, l.Pairwise (fun a b => ∀ n m : Nat, a.v = .int (n : Int) → b.v = .int (m : Int) → L.idxOf m < L.idxOf n) ↔ (l.map (·.v)).Pairwise (fun a b => ∀ n m : Nat, a = .int (n : Int) → b = .int (m : Int) → L.idxOf m < L.idxOf n) := fun l => by rw [List.pairwise_map]
  rw [key, hv, ← key]
  exact h.dec
/-- the slots behind a block's unpacking -/
def spT (dl bp : Addr) (f : FnR) (d : PyData) : List Sl :=
  match d with
  | .tuple [a, b, c, e] => sP dl bp f (.d a) (.d b) (.d c) (.d e) .u .u .u .u .u .u .u .u .u
  | _ => []
section
variable {P : Program} {w : World} {K : PySem.W.Frag} {mg : Str → Option Value} {base : Heap}
theorem ok_spiced (T : Txt K mg) : DefOk P w K mg base 5 "_law_spiced" ["_law_deal", "_law_function_here"] (spM K (fun (f : FnR) ds => ds = [f.d] ∧ FnD f) (fun f d => ∃ f' : FnR, d = f'.d ∧ FnD f')) := by
  refine def_M T.F_L_spiced T.g_L_spiced b_L_spiced sc_L_spiced (by rintro n _ ⟨rfl, _⟩; rfl) ?_
  rintro X ⟨cdv, A, outer, s, H0, E, hr, rfl⟩ f S0 H dl cl ds σ Q C ⟨rfl, fd⟩ hQ
  show SS (xS P w K mg base cdv A outer s H0 E) (defBody s_L_spiced) { nx := fun _ H' => Q .non H', rt := Q } σ H
  have hlen := fd.len
  refine ss_setN 2 (X := xS P w K mg base cdv A outer s H0 E) C ne_nil (fun bp d0 σ1 H1 hbp C1 _ e1 => ?_) sc_L_spiced.nd
  subst e1
  refine ss_forP (X := xS P w K mg base cdv A outer s H0 E) (γ := List BlkR) (js := [3] ++ ([4] ++ ([5] ++ ([6] ++ [])))) (fun bs => [(bp, .lst (bs.map BlkR.d))]) (fun _ => sP dl bp f .u .u .u .u .u .u .u .u .u .u .u .u .u) (fun _ i (bs : List BlkR) => bs.length = i ∧ ∀ (j : Nat) (b' : BlkR), bs[j]? = some b' → ∃ b, f.blocks[j]? = some b ∧ SpB f.L b b') [] (Pds := fun l => l = f.blocks.map BlkR.d) (δt := fun _ d => spT dl bp f d) C1
    (IT.p (it_data (y := .tuple (f.blocks.map BlkR.d)) (de_ix (da := .tuple [f.name, .tuple f.tys, f.res, .tuple (f.blocks.map BlkR.d)]) (de_var 1 rfl) de_int rfl) rfl)) (fun ds _ => ⟨rfl, fun j b' h => by
        have h : ([] : List BlkR)[j]? = some b' := h
        simp at h⟩) (fun W' g d ds i eds hd => ?_) ?_ ?_ rfl PassesOwn.never
  · subst eds
    obtain ⟨b, _, rfl⟩ : ∃ b, f.blocks[i]? = some b ∧ d = b.d := by
      rw [List.getElem?_map] at hd
      cases q : f.blocks[i]? with
      | none => rw [q] at hd; cases hd
      | some b => rw [q] at hd; cases hd; exact ⟨b, rfl, rfl⟩
    exact gd_tup (ds := [.int (b.label : Int), b.params, .tuple (b.ops.map OpI.d), b.ending]) rfl (gds_cons (gd_name 3 sc_L_spiced.nd) (gds_cons (gd_name 4 sc_L_spiced.nd) (gds_cons (gd_name 5 sc_L_spiced.nd) (gds_cons (gd_name 6 sc_L_spiced.nd) gds_nil)))) rfl
  · rintro W1 ds i d bs σ2 H2 hW1 rfl hd ⟨pl, pb⟩ C2
    obtain ⟨b, hb, rfl⟩ : ∃ b, f.blocks[i]? = some b ∧ d = b.d := by
      rw [List.getElem?_map] at hd
      cases q : f.blocks[i]? with
      | none => rw [q] at hd; cases hd
      | some b => rw [q] at hd; cases hd; exact ⟨b, rfl, rfl⟩
    have hbl : i < f.blocks.length := (List.getElem?_eq_some_iff.mp hb).1
    have bd := fd.bl b (List.mem_of_getElem? hb)
    have bol := bd.len
    have C2 : Dl.Ctx K W1 (bp :: S0) [(bp, .lst (bs.map BlkR.d))] (sP dl bp f (.d (.int (b.label : Int))) (.d b.params) (.d (.tuple (b.ops.map OpI.d))) (.d b.ending) .u .u .u .u .u .u .u .u .u) σ2 H2 := C2
    refine ss_setN 7 (X := xS P w K mg base cdv A outer s H0 E) C2 ne_nil (fun sp d0 σ3 H3 hsp C3 _ e3 => ?_) sc_L_spiced.nd
    subst e3
    have hne : sp ≠ bp := fun e => hsp (by rw [e]; exact List.mem_cons_self)
    refine ss_forI (X := xS P w K mg base cdv A outer s H0 E) (γ := List OpI × List Sl) (js := [8]) (fun g => [(sp, .lst (g.1.map OpI.d)), (bp, .lst (bs.map BlkR.d))]) (fun _ => sP dl bp f (.d (.int (b.label : Int))) (.d b.params) (.d (.tuple (b.ops.map OpI.d))) (.d b.ending) (.v (.ref sp)) .u .u .u .u .u .u .u .u) (fun j g => (∀ o ∈ g.1, OpD f.L o) ∧ g.1.map (·.v) = (b.ops.take j).map (·.v)) ([], []) (δt := fun _ d => sP dl bp f (.d (.int (b.label : Int))) (.d b.params) (.d (.tuple (b.ops.map OpI.d))) (.d b.ending) (.v (.ref sp)) (.d d) .u .u .u .u .u .u .u) (ds := b.ops.map OpI.d) C3
      (it_data (y := .tuple (b.ops.map OpI.d)) (de_var 5 rfl) rfl) ⟨by simp, rfl⟩ (fun W' g d => gd_name 8 sc_L_spiced.nd) ?_ ?_ rfl PassesOwn.never
    · rintro W2 j d ⟨os, _⟩ σ4 H4 hW2 hd2 ⟨p1, p2⟩ C4
      dsimp only at p1 p2 C4
      obtain ⟨op, hop, rfl⟩ : ∃ op, b.ops[j]? = some op ∧ d = op.d := by
        rw [List.getElem?_map] at hd2
        cases q : b.ops[j]? with
        | none => rw [q] at hd2; cases hd2
        | some b => rw [q] at hd2; cases hd2; exact ⟨b, rfl, rfl⟩
      have opd := bd.ops.all op (List.mem_of_getElem? hop)
      have osl : os.length ≤ 4 := by
        have := congrArg List.length p2
        rw [List.length_map, List.length_map, List.length_take] at this
        omega
      refine spice_op T (f := f) (dl := dl) (cl := cl) hr (by rw [hW2, hW1]) hne p1 opd (fun one ho n m h1 h2 => bd.ops.lt hop (by rw [← p2]; exact List.mem_map_of_mem ho) h1 h2) osl C4 fun o' σ5 H5 h1 h2 sl sfm swd swi snb sar C5 => ?_
      refine ⟨(os ++ [o'], []), ⟨fun o ho => ?_, ?_⟩, ?_⟩
      · rcases List.mem_append.mp ho with h | h
        · exact p1 o h
        · rw [List.mem_singleton.mp h]; exact h1
      · show (os ++ [o']).map (·.v) = (b.ops.take (j + 1)).map (·.v)
        rw [List.map_append, p2, List.take_add_one, hop, List.map_append, List.map_cons, h2]
        rfl
      · dsimp only
        rw [List.map_append]
        have C5 : Dl.Ctx (xS P w K mg base cdv A outer s H0 E).K _ _ _ _ _ _ := C5
        exact (((((((C5.u 8).u 9).u 10).u 11).u 12).u 13).u 14).u 15
    · rintro ⟨os, _⟩ σ4 H4 ⟨p1, p2⟩ C4
      dsimp only at p1 p2 C4
      rw [List.length_map, List.take_length] at p2
      have osl : os.length ≤ 4 := by
        have := congrArg List.length p2
        rw [List.length_map, List.length_map] at this
        omega
      have C5 := C4.perm (G' := (bp, .lst (bs.map BlkR.d)) :: [(sp, .lst (os.map OpI.d))]) (fun z hz => by
        simp only [List.mem_cons, List.not_mem_nil, or_false] at hz ⊢
        exact hz.symm)
      have nb : BlkD f.L ⟨b.label, b.params, os, b.ending, b.tg⟩ := ⟨bd.ops.of_v p1 p2, bd.fin, osl⟩
      refine ss_append 2 (X := xS P w K mg base cdv A outer s H0 E) C5 rfl (by rw [List.length_map]; omega) (fun z hz e => hne (by rw [List.mem_singleton.mp hz] at e; exact e)) (P := fun z => z = BlkR.d ⟨b.label, b.params, os, b.ending, b.tg⟩) (de_tupE (da_consE (de_var 3 rfl) (da_consE (de_var 4 rfl) (da_consE (de_tupleM 7 T.n_tuple rfl (List.mem_cons_of_mem _ List.mem_cons_self)) (da_consE (de_var 6 rfl) da_nilE))))) (fun d σ5 H5 C6 _ e => ?_)
      subst e
      have C7 := (C6.perm (G' := (sp, .lst (os.map OpI.d)) :: [(bp, .lst (bs.map BlkR.d ++ [BlkR.d ⟨b.label, b.params, os, b.ending, b.tg⟩]))]) (fun z hz => by
        simp only [List.mem_cons, List.not_mem_nil, or_false] at hz ⊢
        exact hz.symm))
      have C8 : Dl.Ctx (xS P w K mg base cdv A outer s H0 E).K W1 (bp :: S0) [(bp, .lst (bs.map BlkR.d ++ [BlkR.d ⟨b.label, b.params, os, b.ending, b.tg⟩]))] _ σ5 H5 := C7.drop hsp (fun z hz => by rw [List.mem_singleton.mp hz]; exact List.mem_cons_self) (fun a ha => (C2.ms a ha).1)
      refine ss_nil ⟨bs ++ [⟨b.label, b.params, os, b.ending, b.tg⟩], ⟨by rw [List.length_append, pl]; rfl, fun j b' hj => ?_⟩, ?_⟩
      · by_cases hjl : j < bs.length
        · rw [List.getElem?_append_left hjl] at hj
          exact pb j b' hj
        · rw [List.getElem?_append_right (by omega)] at hj
          have hz : j - bs.length = 0 := by
            cases q : j - bs.length with
            | zero => rfl
            | succ m => rw [q] at hj; simp at hj
          rw [hz] at hj
          simp only [List.getElem?_cons_zero, Option.some.injEq] at hj
          have : j = i := by omega
          subst this
          subst hj
          exact ⟨b, hb, rfl, rfl, nb⟩
      · dsimp only
        rw [List.map_append]
        exact ((((C8.u 3).u 4).u 5).u 6).u 7
  · rintro ds bs σ2 H2 rfl ⟨pl, pb⟩ C2
    rw [List.length_map] at pl
    have hlab : bs.map (·.label) = f.blocks.map (·.label) := by
      apply List.ext_getElem?
      intro j
      rw [List.getElem?_map, List.getElem?_map]
      cases q : bs[j]? with
      | none =>
        have : bs.length ≤ j := List.getElem?_eq_none_iff.mp q
        rw [List.getElem?_eq_none (by omega)]
      | some b' =>
        obtain ⟨b, hb, sb⟩ := pb j b' q
        rw [hb]
        show some b'.label = some b.label
        rw [sb.lab]
    have nf : FnD ⟨f.name, f.tys, f.res, bs, f.L⟩ := by
      refine ⟨fun b' hb' => ?_, by rw [hlab]; exact fd.nd, fun b' hb' t ht => ?_, fun z => ?_, by show bs.length ≤ 6; omega, fd.nm, fd.Ll⟩
      · obtain ⟨j, hj⟩ := List.mem_iff_getElem?.mp hb'
        obtain ⟨b, _, sb⟩ := pb j b' hj
        exact sb.ok
      · obtain ⟨j, hj⟩ := List.mem_iff_getElem?.mp hb'
        obtain ⟨b, hb, sb⟩ := pb j b' hj
        show t ∈ bs.map (·.label)
        rw [hlab]
        exact fd.tg b (List.mem_of_getElem? hb) t (by rw [← sb.tg]; exact ht)
      · have z : bs = [] := z
        rw [z] at pl
        exact fd.ne (List.length_eq_zero_iff.mp pl.symm)
    refine ss_retM (S0 := S0) (post := fun d => ∃ f' : FnR, d = f'.d ∧ FnD f') (X := xS P w K mg base cdv A outer s H0 E) C2 (P := fun d => d = FnR.d ⟨f.name, f.tys, f.res, bs, f.L⟩) (de_tupE (da_consE (de_ix (da := f.d) (d := f.name) (de_var 1 rfl) de_int rfl) (da_consE (de_ix (da := f.d) (d := .tuple f.tys) (de_var 1 rfl) de_int rfl) (da_consE (de_ix (da := f.d) (d := f.res) (de_var 1 rfl) de_int rfl) (da_consE (de_tupleM 2 T.n_tuple rfl List.mem_cons_self) da_nilE))))) hQ (fun d e => ⟨_, e, nf⟩) (fun x hx => List.mem_cons_of_mem _ hx)
end
end K53
/-! text D24 -/
set_option Elab.async false
set_option linter.all false
set_option maxRecDepth 100000
set_option maxHeartbeats 1000000
namespace Dl
open PySem PySem.Spec PyProof.Rows L2
section
variable {P : Program} {w : World} {K : PySem.W.Frag} {mg : Str → Option Value} {base : Heap} {x : Str} {params : Arguments} {body : List Stmt} {scope : Scope} {f : Addr} {N : List Str} {kn : Str} {k : Nat} {ι : Type} {pre : ι → List PyData → Prop} {post : ι → PyData → Prop}
abbrev KwW (x : Str) (params : Arguments) (body : List Stmt) (scope : Scope) (kn : Str) : Prop := ∀ (kV doc pm : Value) (an : Option Addr) (cdv ct : Value) (u : Value), bindArgs (PySem.W.fnOf x x params body scope .none kV doc pm an cdv ct) ⟨[], [(kn, u)]⟩ = pure [(kn, u)]
/-- a def of one parameter, called by place or by keyword -/
theorem def_PK (F : ∃ fd, FunD K x x params body scope [] [] f fd) (hm : mg x = some (.ref f)) (hb : BindW x params body scope [kn]) (hkw : KwW x params body scope kn) (S : FnScope N [kn] scope) (hl : ∀ i ds, pre i ds → ds.length = 1)
    (h : ∀ (X : Cx), (∃ (cdv : Value) (A : Around) (outer : List Env) (s : Shared) (H : Hp) (E : XK), Room k (A.deeper (envOfC x scope s.heap.objs.size f cdv)) ∧ X = (cxOf CX0 P w K mg base N x scope f cdv A outer s H E).nox) →
      ∀ (i : ι) (S0 : List Addr) (H : Hp) (ds : List PyData) (σ : L2.St) (Q : VK), Ctx K ⟨[], H, []⟩ S0 [] (ds.map Sl.d ++ List.replicate (N.length - 1) Sl.u) σ H → pre i ds → (∀ v H' d, Stp [] H H' → post i d → Rp K S0 H' d v → Q v H') →
      SS X body { nx := fun _ H' => Q .non H', rt := Q } σ H) : DefOk P w K mg base (k + 1) x [kn] (spP K pre post) ∧ DefK P w K mg base (k + 1) x kn (spP K pre post) := by
  obtain ⟨fd, F⟩ := F
  have ok : FnOk P w K mg base CX0 (k + 1) f fd [kn] (spP K pre post) := F.ok S (fun vs H Q E q => by
    obtain ⟨i, S0, ds, _, r, p, _⟩ := q
    rw [r.len]
    exact hl i ds p) fun cdv A outer s H vs Q E hr q => by
    obtain ⟨i, S0, ds, t, r, p, q⟩ := q
    refine ⟨_, PSs.nox psse, h _ ⟨cdv, A, outer, s, H, E, hr, rfl⟩ i S0 H ds _ Q ⟨?_, .inl rfl, fun a ha => (by cases ha), fun p hp => (by cases hp), t, .refl⟩ p q⟩
    have e : N.length - 1 = N.length - vs.length := by rw [r.len, hl i ds p]
    rw [e]
    exact start_env _ r
  refine ⟨⟨f, fd, hm, F.kp, F.bindsN hb, ok⟩, ⟨f, fd, hm, F.kp, ⟨fun s us ws X hlen => ?_, fun r1 r2 => r1.append r2⟩, ok⟩⟩
  have bn := F.bindsN hb
  obtain ⟨oc, od, dV, kV, doc, pm, an, cdv, ct, osl, rfl, lk, hcd, hD, hK⟩ := F.ex
  match us, ws, hlen with
  | [u], [], _ => exact bn s [u] X rfl
  | [], [u], _ =>
    rcases hD with ⟨_, rfl⟩ | ⟨e, _⟩
    · exact .of_eq (hkw kV doc pm an cdv ct u)
    · exact absurd rfl e
end
end Dl
/-! text D25 -/
set_option Elab.async false
set_option linter.all false
set_option maxRecDepth 100000
set_option maxHeartbeats 1000000
namespace Dl
open PySem PySem.Spec PyProof.Rows L2
section
variable {X : Cx} {W : Wd} {S : List Addr} {G : List (Addr × MO)} {δ δ' : List Sl} {a b c e f tg : Expr} {es : List Expr} {P Pa Pb : PyData → Prop} {pos : Pos} {σ : L2.St} {H : Hp} {D : Ends} {r : List Stmt} {d x y : PyData} {ds : List PyData} {js : List Nat} {m : List (Key × PyData)} {k : Key}
/-- a, b = data, {..}: names that comprehensions read -/
theorem ss_parEDt (i j : Nat) {x y : Str} {px py pt pos : Pos} {kt k2 : Nat} {pt2 : Pos} {Pm : List (Key × PyData) → Prop} (C : Dl.Ctx X.K W S G δ σ H) (hc : X.calm = true) (ha : DE X W S G δ a Pa) (hb : ND X W S G δ b Pm)
    (k : ∀ da q db σ' H', q ∉ S → Dl.Ctx X.K W (q :: S) ((q, .dct db) :: G) ((δ.set i (.d da)).set j (.v (.ref q))) σ' H' → Stp W.M H H' → Pa da → Pm db → SS X r D σ' H') (hN : X.N.Nodup)
    (hi : X.N[i]? = some x := by rfl) (hj : X.N[j]? = some y := by rfl) (hx : Loc X.env.scope x := by first | exact Or.inl rfl | exact Or.inr rfl) (hy : Loc X.env.scope y := by first | exact Or.inl rfl | exact Or.inr rfl) (hfx : X.fn x = true ∨ X.env.scope.names.lookup x = some .local := by first | exact .inl rfl | exact .inr rfl) (hfy : X.fn y = true ∨ X.env.scope.names.lookup y = some .local := by first | exact .inl rfl | exact .inr rfl)
    (hs : swapsWithSole [.Tuple [.Name x px, .Name y py] kt pt] (.Tuple [a, b] k2 pt2) pos.line X.env = pure false := by rfl) (hw : swappedStores [.Tuple [.Name x px, .Name y py] kt pt] (.Tuple [a, b] k2 pt2) X.env = pure none := by rfl) (h1 : (assignEach [.Tuple [.Name x px, .Name y py] kt pt] X.env).map (·.2) = [assign (.Tuple [.Name x px, .Name y py] kt pt) X.env] := by rfl)
    (hn : (assignEach [.Name x px, .Name y py] X.env).length = [Expr.Name x px, Expr.Name y py].length := by rfl) (hst : (assignEach [.Name x px, .Name y py] X.env).findIdx? (·.1) = none := by rfl) (h2 : (assignEach [.Name x px, .Name y py] X.env).map (·.2) = assign (.Name x px) X.env :: (assignEach [.Name y py] X.env).map (·.2) := by rfl) (h3 : (assignEach [.Name y py] X.env).map (·.2) = assign (.Name y py) X.env :: (assignEach [] X.env).map (·.2) := by rfl) (hsa : nStar a = true := by rfl) (hsb : nStar b = true := by rfl) :
    SS X (.Assign [.Tuple [.Name x px, .Name y py] kt pt] (.Tuple [a, b] k2 pt2) pos :: r) D σ H := by
  refine ss_cons (S1.of (ps_asg pee pge hs hw h1) (ev_tup (ea_cons (ha σ H C _ fun v H1 da C1 s1 pa ra => ?_) (star_cons hsa))))
  refine ea_cons (hb σ H1 C1 _ fun q H2 db ys C2 s2 hq hl pb rb => ea_nil ⟨Nat.le_of_lt (small1000 (by show 2 ≤ 1000; decide)), fun t ht => ?_⟩) (star_cons hsb)
  have CB := C1.adopt (x := .dct db) C2 s2 hq ⟨ys, hl, rb⟩
  have st : Stp [] H2 (upd H2 t (.tup [v, .ref q])) := Stp.new ht
  have CT := CB.ext st
  have ra2 : Rp X.K (q :: S) (upd H2 t (.tup [v, .ref q])) da v := (ra.mv (C1.mvA s2 hq)).mv (st.mv fun x hx => by cases hx)
  exact EG.of (pg_tup hc pges hn hst) ⟨t, [v, .ref q], rfl, .inl (.inl upd_same), rfl, egs_name i (egs_name j (egs_nil (k da q db _ _ (C1.trk.out hq) ((CT.set i (o := some v) (s := .d da) ⟨v, rfl, ra2⟩).set j (o := some (.ref q)) (s := .v (.ref q)) rfl) ((s1.trans s2).trans st.nil) pa pb)) hN hj hy hfy h3) hN hi hx hfx h2⟩
/-- a, b = data, data: names that comprehensions read -/
theorem ss_parEEt (i j : Nat) {x y : Str} {px py pt pos : Pos} {kt k2 : Nat} {pt2 : Pos} (C : Dl.Ctx X.K W S G δ σ H) (hc : X.calm = true) (ha : DE X W S G δ a Pa) (hb : DE X W S G δ b Pb)
    (k : ∀ da db σ' H', Dl.Ctx X.K W S G ((δ.set i (.d da)).set j (.d db)) σ' H' → Stp W.M H H' → Pa da → Pb db → SS X r D σ' H') (hN : X.N.Nodup)
    (hi : X.N[i]? = some x := by rfl) (hj : X.N[j]? = some y := by rfl) (hx : Loc X.env.scope x := by first | exact Or.inl rfl | exact Or.inr rfl) (hy : Loc X.env.scope y := by first | exact Or.inl rfl | exact Or.inr rfl) (hfx : X.fn x = true ∨ X.env.scope.names.lookup x = some .local := by first | exact .inl rfl | exact .inr rfl) (hfy : X.fn y = true ∨ X.env.scope.names.lookup y = some .local := by first | exact .inl rfl | exact .inr rfl)
    (hs : swapsWithSole [.Tuple [.Name x px, .Name y py] kt pt] (.Tuple [a, b] k2 pt2) pos.line X.env = pure false := by rfl) (hw : swappedStores [.Tuple [.Name x px, .Name y py] kt pt] (.Tuple [a, b] k2 pt2) X.env = pure none := by rfl) (h1 : (assignEach [.Tuple [.Name x px, .Name y py] kt pt] X.env).map (·.2) = [assign (.Tuple [.Name x px, .Name y py] kt pt) X.env] := by rfl)
    (hn : (assignEach [.Name x px, .Name y py] X.env).length = [Expr.Name x px, Expr.Name y py].length := by rfl) (hst : (assignEach [.Name x px, .Name y py] X.env).findIdx? (·.1) = none := by rfl) (h2 : (assignEach [.Name x px, .Name y py] X.env).map (·.2) = assign (.Name x px) X.env :: (assignEach [.Name y py] X.env).map (·.2) := by rfl) (h3 : (assignEach [.Name y py] X.env).map (·.2) = assign (.Name y py) X.env :: (assignEach [] X.env).map (·.2) := by rfl) (hsa : nStar a = true := by rfl) (hsb : nStar b = true := by rfl) :
    SS X (.Assign [.Tuple [.Name x px, .Name y py] kt pt] (.Tuple [a, b] k2 pt2) pos :: r) D σ H := by
  refine ss_cons (S1.of (ps_asg pee pge hs hw h1) (ev_tup (ea_cons (ha σ H C _ fun v H1 da C1 s1 pa ra => ?_) (star_cons hsa))))
  refine ea_cons (hb σ H1 C1 _ fun w H2 db C2 s2 pb rb => ea_nil ⟨Nat.le_of_lt (small1000 (by show 2 ≤ 1000; decide)), fun t ht => ?_⟩) (star_cons hsb)
  have st : Stp [] H2 (upd H2 t (.tup [v, w])) := Stp.new ht
  have CT := C2.ext st
  have ra2 : Rp X.K S (upd H2 t (.tup [v, w])) da v := (C1.mv s2 ra).mv (st.mv fun x hx => by cases hx)
  have rb2 : Rp X.K S (upd H2 t (.tup [v, w])) db w := rb.mv (st.mv fun x hx => by cases hx)
  exact EG.of (pg_tup hc pges hn hst) ⟨t, [v, w], rfl, .inl (.inl upd_same), rfl, egs_name i (egs_name j (egs_nil (k da db _ _ ((CT.set i (o := some v) (s := .d da) ⟨v, rfl, ra2⟩).set j (o := some w) (s := .d db) ⟨w, rfl, rb2⟩) ((s1.trans s2).trans st.nil) pa pb)) hN hj hy hfy h3) hN hi hx hfx h2⟩
end
end Dl
/-! text D26 -/
set_option Elab.async false
set_option linter.all false
set_option maxRecDepth 100000
set_option maxHeartbeats 1000000
namespace Dl
open PySem PySem.Spec PyProof.Rows L2
/-! ### sorted(xs, key=lambda x: x[0]) -/
section
variable {prog : Program} {w : World} {A : Around} {s : Shared} {f c' t : Addr} {q x n : Str} {params : Arguments} {scope : Scope} {cl : List (Str × Addr)} {pm ctv : Value} {p1 p2 bp : Pos} {ky : Nat} {its : Array Value} {tk : Tok}
theorem key0_turn (hroom : A.depth < recursionLimit) (hf : s.heap.get? f = some (PySem.W.kla_obj "<lambda>" q params (.Subscript (.Name x p1) (.Constant (.int 0) ky p2) bp) scope cl pm c' ctv)) (hc : s.heap.CodeRec (.ref c') q) (nl : s.heap.NoLimit)
    (ht : IsTup s.heap t its) (h0 : its[0]? = some (.str n tk)) (hbind : bindArgs (PySem.W.kla_fn "<lambda>" q params (.Subscript (.Name x p1) (.Constant (.int 0) ky p2) bp) scope cl pm (.ref c') ctv) ⟨[.ref t], []⟩ = pure [(x, .ref t)])
    (hx : scope.names.lookup x = some .local) (hk : scope.kind = .function) (hco : scope.isCoroutine = false) (hgen : scope.isGenerator = false) (hcell : ∀ y ∈ scope.names, y.2 ≠ .cell) (hdb : (x == ("__debug__" : Str)) = false) :
    wpAny (model prog w) A (call (.ref f) [.ref t]) (PySem.W.KeyPure (.str n) s) (fun _ _ => False) s := by
  refine wpAny_call (PySem.W.kla_callFunE hroom hf rfl hco hgen rfl hc ?_)
  rw [hbind]
  refine wpAny_pure (wpAny_newFunctionEnv hcell (fun y hy => ?_) (fun h₁ hns hsb => ⟨nl.fresh _ hsb, ?_⟩) hk)
  · rw [List.mem_singleton.mp hy]; exact hx
  have kp : ∀ b o, s.heap.get? b = some o → h₁.get? b = some o := fun b o e => hsb.extBut b o (Nat.ne_of_lt (Heap.lt_size e)) (Heap.get?_push_of_some _ e)
  have ht' : IsTup h₁ t its := by
    obtain ⟨o, e, r⟩ := ht
    exact ⟨o, kp _ _ e, r⟩
  have hlt : 0 < its.size := by
    cases z : its.size with
    | zero => rw [Array.getElem?_eq_none (by omega)] at h0; cases h0
    | succ k => omega
  show codeAny _ _ (.expr (.Subscript (.Name x p1) (.Constant (.int 0) ky p2) bp) (PySem.W.envX q scope s.heap.objs.size f (.ref c') cl)) _ _
  refine PySem.W.kla_codeExpr (Subscript_ (wpAny_Name (wpAny_loadName_local hk hx hns (v := .ref t) (by simp) ?_) hdb))
  refine wpAny_Constant_int (subscriptTail_builtinR (x := .str n tk) (id := "tuple.__getitem__") (show Shared.TypeIs _ (.ref t) "tuple" from ht'.typeIs) slot_tuple_getitem.lookup (getItem_tuple (j := 0) ht' (by decide) (by decide) ?_ h0 ⟨rfl, ?_⟩))
  · unfold seqIndex?
    simp
    exact fun z => by rw [z] at hlt; exact absurd hlt (by decide)
  · exact ⟨h₁, _, rfl, kp, .str n tk⟩
end
section
variable {X : Cx} {pins : List (Addr × Obj)} {σ : L2.St} {H : Hp} {s : Shared}
/-- a lambda made, the heap behind it told whole -/
theorem lam_make3 {c P : Addr} {q : Str} {params : Arguments} {body : Expr} {scope : Scope} {pos : Pos} {E Q : Value → Shared → Prop} (I : Inv X pins σ H s) (TB : LamX.TabB X.base X.mg c P) (hcode : X.env.code = .ref c) (hq : q = X.env.qual ++ "<lambda>") (hT : LamX.TabS H P q) (hdef : defaultsOf params X.env = ([], []))
    (hfree : ∀ y ∈ scope.names, y.2 = .free → ∃ c, X.env.cells.lookup y.1 = some c)
    (h : ∀ (f c' : Addr) (pm ctv : Value) (cl : List (Str × Addr)) (H1 : Hp) (s' : Shared), Inv X pins σ H1 s' → Stp [P] H H1 → LamX.TabS H1 P q → s'.heap.get? f = some (PySem.W.kla_obj "<lambda>" q params body scope cl pm c' ctv) → s'.heap.CodeRec (.ref c') q → Q (.ref f) s') :
    wpAny (model X.prog X.w) X.A (eval (.Lambda params body scope pos) X.env) Q E s := by
  subst hq
  obtain ⟨ps, hP, tr, told⟩ := hT
  have oP := I.hok P _ hP
  refine PySem.W.kla_eval hdef ?_
  cases at_ : codeAmong pos ps.toList with
  | some cv =>
    obtain ⟨c1, rfl, o1⟩ := told pos cv at_
    refine PySem.W.kla_makeFunctionHit (closure_ok hfree) I.ok.glob (I.mod.glob.keeps I.bk) hcode (TB.code.keeps I.bk) oP tr at_ (TB.bm.keeps I.bk) fun ctv g tk k1 _ => ?_
    have J : Inv X pins σ H { s with heap := g.push (PySem.W.kla_obj "<lambda>" (X.env.qual ++ "<lambda>") params body scope (cloFrom X.env.cells scope.names []) ((X.mg "__name__").getD .none) c1 ctv), toks := tk } := I.kept fun b o e => Heap.get?_push_of_some _ (k1 b o e)
    obtain ⟨⟨oc, vs, t, e1, e2, e3⟩, _⟩ := J.hok c1 _ o1
    exact h _ c1 _ ctv _ H _ J .refl ⟨ps, hP, tr, told⟩ (Heap.get?_push_size _ rfl) ⟨c1, oc, vs, t, rfl, e1, e2, e3⟩
  | none =>
    refine PySem.W.kla_makeFunction (closure_ok hfree) I.ok.glob (I.mod.glob.keeps I.bk) hcode (TB.code.keeps I.bk) oP tr at_ TB.gP (TB.bm.keeps I.bk) fun c1 ctv g tk k1 k2 k3 k4 k5 => ?_
    obtain ⟨c2, oc, vs, t, e0, e1, e2, e3⟩ := k4
    cases e0
    have n1 : H c1 = none := I.hok.fresh k2
    have nP : P ≠ c1 := ne_of_none hP n1
    have J := LamX.inv_table (t' := tk) (more := #[rawInt pos.line, rawInt pos.col, .ref c1]) (h' := g.push (PySem.W.kla_obj "<lambda>" (X.env.qual ++ "<lambda>") params body scope (cloFrom X.env.cells scope.names []) ((X.mg "__name__").getD .none) c1 ctv)) I hP
      (fun b o hb e => Heap.get?_push_of_some _ (k1 b o hb e)) (Heap.get?_push_of_some _ k5) k2 ⟨oc, vs, t, Heap.get?_push_of_some _ e1, e2, e3⟩
    have st : Stp [P] H (upd (upd H P (.tbl (ps ++ #[rawInt pos.line, rawInt pos.col, .ref c1]))) c1 (LamX.CodeO c1 (X.env.qual ++ "<lambda>"))) := fun b o e nb => by
      rw [upd_ne (ne_of_none e n1), upd_ne (fun z => nb (List.mem_singleton.mpr z))]
      exact e
    have tl : (ps ++ #[rawInt pos.line, rawInt pos.col, .ref c1]).toList = ps.toList ++ [rawInt pos.line, rawInt pos.col, .ref c1] := by simp
    refine h _ c1 _ ctv _ _ _ J st ⟨_, by rw [upd_ne nP, upd_same], by rw [tl]; exact PySem.TriplesOk_snoc _ _ _ _ tr, fun p' cv hcv => ?_⟩ (Heap.get?_push_size _ rfl) ⟨c1, oc, vs, t, rfl, Heap.get?_push_of_some _ e1, e2, e3⟩
    rw [tl] at hcv
    rcases LamX.among_app _ tr hcv with z | z
    · obtain ⟨c0, a1, a2⟩ := told p' cv z
      refine ⟨c0, a1, st _ _ a2 fun z => ?_⟩
      rw [List.mem_singleton.mp z, hP] at a2
      exact LamX.codeO_ne ps (Option.some.inj a2).symm
    · exact ⟨c1, z, upd_same⟩
theorem each_vals : ∀ {xs : List V} {us : List Value}, Vals xs us → PySem.W.EachIs (fun u x => RelV x u) us xs
  | _, _, .nil => .nil
  | _, _, .cons h t => .cons h (each_vals t)
theorem vals_each : ∀ {us : List Value} {xs : List V}, PySem.W.EachIs (fun u x => RelV x u) us xs → Vals xs us
  | _, _, .nil => .nil
  | _, _, .cons h t => .cons h (vals_each t)
end
end Dl
/-! text D27 -/
set_option Elab.async false
set_option linter.all false
set_option maxRecDepth 100000
set_option maxHeartbeats 1000000
namespace Dl
open PySem PySem.Spec PyProof.Rows L2
section
variable {X : Cx} {σ : L2.St} {H : Hp}
/-- a pair whose first item is a text -/
def Key0 (K : PySem.W.Frag) (H : Hp) (x : V) (n : Str) : Prop := ∃ t ys, x = .ref t ∧ SqT K H t (.str n :: ys)
theorem rd_stp {H H' : Hp} {P a : Addr} {ps : Array Value} {o : HO} (hP : H P = some (.tbl ps)) (st : Stp [P] H H') (h : Rd H a o) (hn : ∀ qs, o ≠ .tbl qs) : Rd H' a o := by
  rcases h with h | ⟨o', h⟩
  · refine .inl (st _ _ h fun z => ?_)
    rw [List.mem_singleton.mp z, hP] at h
    exact hn ps (Option.some.inj h).symm
  · refine .inr ⟨o', st _ _ h fun z => ?_⟩
    rw [List.mem_singleton.mp z, hP] at h
    cases h
theorem sqL_stp {K : PySem.W.Frag} {H H' : Hp} {P a : Addr} {ps : Array Value} {xs : List V} (hP : H P = some (.tbl ps)) (st : Stp [P] H H') (h : SqL K H a xs) : SqL K H' a xs := by
  rcases h with h | h
  · exact .inl (rd_stp hP st h fun qs z => by cases z)
  · exact .inr h
theorem sqT_stp {K : PySem.W.Frag} {H H' : Hp} {P a : Addr} {ps : Array Value} {xs : List V} (hP : H P = some (.tbl ps)) (st : Stp [P] H H') (h : SqT K H a xs) : SqT K H' a xs := by
  rcases h with h | h
  · exact .inl (rd_stp hP st h fun qs z => by cases z)
  · exact .inr h
theorem ee_sortKey0 {c P : Addr} {q x : Str} {a : Expr} {params : Arguments} {scope : Scope} {p kp lp p1 p2 bp pos : Pos} {ky : Nat} {Q : VK} (hm : X.mg "sorted" = none) (hd : X.A.depth < recursionLimit) (hu : X.A.units + 64 < cLine) (TB : LamX.TabB X.base X.mg c P) (hcode : X.env.code = .ref c) (hq : q = X.env.qual ++ "<lambda>")
    (ha : EE X a σ H fun v H1 => ∃ (l : Addr) (xs : List V) (nm : V → Str), v = .ref l ∧ SqL X.K H1 l xs ∧ (∀ y ∈ xs, Key0 X.K H1 y (nm y)) ∧ LamX.TabS H1 P q ∧
      ∀ H2, Stp [P] H1 H2 → LamX.TabS H2 P q → ∀ (r : Addr) (out : List V), out.Perm xs → H2 r = none → Q (.ref r) (upd H2 r (.lst out)))
    (hx : scope.names.lookup x = some .local) (hk : scope.kind = .function) (hco : scope.isCoroutine = false) (hgen : scope.isGenerator = false) (hcell : ∀ y ∈ scope.names, y.2 ≠ .cell) (hfr : ∀ y ∈ scope.names, y.2 ≠ .free) (hdb : (x == ("__debug__" : Str)) = false)
    (hdef : defaultsOf params X.env = ([], [])) (hbind : ∀ (cl : List (Str × Addr)) (pm cd ctv u : Value), bindArgs (PySem.W.kla_fn "<lambda>" q params (.Subscript (.Name x p1) (.Constant (.int 0) ky p2) bp) scope cl pm cd ctv) ⟨[u], []⟩ = pure [(x, u)])
    (hg : Gl X "sorted" := by rfl) (na : starEach [a] X.env = (false, eval a X.env) :: starEach [] X.env := by exact star_cons rfl)
    (he : backTo pos (starEach [a] X.env) = (false, eval a X.env) :: backTo pos (starEach [] X.env) := by rfl) (hpl : (backTo pos (starEach [a] X.env)).any (·.1) = false := by rfl)
    (hall : (backToKw pos (keywordEach [⟨some "key", .Lambda params (.Subscript (.Name x p1) (.Constant (.int 0) ky p2) bp) scope lp, kp⟩] X.env)).all (·.1.isSome) = true := by rfl) (hnone : (backToKw pos (keywordEach [⟨some "key", .Lambda params (.Subscript (.Name x p1) (.Constant (.int 0) ky p2) bp) scope lp, kp⟩] X.env)).any (·.1.isNone) = false := by rfl)
    (hks : (backToKw pos (keywordEach [⟨some "key", .Lambda params (.Subscript (.Name x p1) (.Constant (.int 0) ky p2) bp) scope lp, kp⟩] X.env)).filterMap (·.1) = [Str.ofString "key"] := by rfl) :
    EE X (.Call (.Name "sorted" p) [a] [⟨some "key", .Lambda params (.Subscript (.Name x p1) (.Constant (.int 0) ky p2) bp) scope lp, kp⟩] pos) σ H Q := by
  intro pins s I
  refine wpAny_Call_Name_kw (ld_blt I hg hm PyProof.Rows.boot_sorted (PyProof.Rows.callWith_kw (thn ((pa_cons (pee (X := X) (e := a)) pa_nil na).run pos pins s σ H (fun vs H1 => ∃ (l : Addr) (xs : List V) (nm : V → Str), vs = [V.ref l] ∧ SqL X.K H1 l xs ∧ (∀ y ∈ xs, Key0 X.K H1 y (nm y)) ∧ LamX.TabS H1 P q ∧
      ∀ H2, Stp [P] H1 H2 → LamX.TabS H2 P q → ∀ (r : Addr) (out : List V), out.Perm xs → H2 r = none → Q (.ref r) (upd H2 r (.lst out))) I ?_) fun us s1 ⟨vs, H1, I1, r1, l, xs, nm, e1, hs, hkey, hT, hQ⟩ => ?_) he hpl hall hnone))
  · refine fun pins s I => thn (ha pins s I) fun u s1 ⟨v, H1, I1, r1, l, xs, nm, e1, z⟩ => ⟨v, H1, I1, r1, l, xs, nm, by rw [e1], z⟩
  subst e1
  obtain rfl := Vals.ref1 r1
  refine PyProof.Rows.kws_cons (lam_make3 I1 TB hcode hq hT hdef (fun y hy e => absurd e (hfr y hy)) fun f c' pm ctv cl H2 s2 I2 st2 hT2 hf hcr => PyProof.Rows.kws_nil ?_)
  rw [hks]
  show wpAny _ X.A (call (.builtin "sorted") [.ref l] [(Str.ofString "key", .ref f)]) _ _ s2
  obtain ⟨ps, hP, _⟩ := hT
  obtain ⟨its, rv, pl, hz⟩ := I2.list (sqL_stp hP st2 hs)
  refine PySem.W.sorted_key_data (β := V) (b := false) (bs := xs) (vs := its) (R := fun u y => RelV y u) (fun y => PyData.str (nm y)) pl.isList (each_vals rv) ?_ ?_ hz (fun y _ => ?_) (PyProof.Rows.ksk_s1 _ _) (fun _ => PyProof.Rows.ksk_l1 _ _) (fun r => PyProof.Rows.ksk_t1 f r) (fun v y hR hy h tk keep => ?_) (fun out ep h' tk keep hfresh hnew hlen each => ?_)
  · intro d h1 d' h2
    obtain ⟨y, _, rfl⟩ := List.mem_map.mp h1
    obtain ⟨z, _, rfl⟩ := List.mem_map.mp h2
    rfl
  · refine .inr fun d h1 => ?_
    obtain ⟨y, _, rfl⟩ := List.mem_map.mp h1
    exact ⟨(fun z => by cases z), (fun xs z => by cases z)⟩
  · show X.A.units + 2 + 0 < cLine
    omega
  · obtain ⟨t, ys, rfl, ht⟩ := hkey y hy
    obtain rfl : v = Value.ref t := hR
    obtain ⟨its2, rv2, pl2, _⟩ := I2.tuple (sqT_stp hP st2 ht)
    cases rv2 with
    | @cons _ u1 _ r2 ru rr =>
      obtain ⟨tk0, rfl⟩ := ru
      refine key0_turn (s := { s2 with heap := h, toks := tk }) (A := X.A.in1.in1) hd (keep _ _ hf) ?_ (I2.nolimit.keeps keep) (its := (Value.str (nm (.ref t)) tk0 :: r2).toArray) (n := nm (.ref t)) (tk := tk0) ?_ rfl (hbind _ _ _ _ _) hx hk hco hgen hcell hdb
      · obtain ⟨c0, oc, vs, tq, e0, e1, e2, e3⟩ := hcr
        exact ⟨c0, oc, vs, tq, e0, keep _ _ e1, e2, e3⟩
      · obtain ⟨o, e, r⟩ := pl2
        exact ⟨o, keep _ _ e, r⟩
  · have hperm := List.mergeSort_perm xs (PySem.W.dataLe false fun y => PyData.str (nm y))
    have hvals := vals_each each
    have hn2 : H2 (s2.heap.objs.size + 1) = none := I2.hok.fresh (Nat.le_succ _)
    refine ⟨.ref _, upd H2 (s2.heap.objs.size + 1) (.lst (xs.mergeSort (PySem.W.dataLe false fun y => PyData.str (nm y)))), I2.laid (t' := tk) keep (Nat.le_succ _) ⟨by rw [hperm.length_eq]; exact hz, out, ep, hvals, hnew⟩, rfl, hQ H2 st2 hT2 _ _ hperm hn2⟩
end
end Dl
/-! text D28 -/
set_option Elab.async false
set_option linter.all false
set_option maxRecDepth 100000
set_option maxHeartbeats 1000000
namespace Dl
open PySem PySem.Spec PyProof.Rows L2
section
variable {X : Cx} {W : Wd} {S : List Addr} {G : List (Addr × MO)} {δ δ' : List Sl} {a b c e f tg : Expr} {es : List Expr} {P Pa Pb : PyData → Prop} {pos : Pos} {σ : L2.St} {H : Hp} {D : Ends} {r : List Stmt} {d x y : PyData} {ds : List PyData} {js : List Nat} {m : List (Key × PyData)} {k : Key}
/-- y = [.. for tg in ..] on one line, y a local, over data that is not told -/
theorem ss_setLcP (i : Nat) {x : Str} {py spos : Pos} {own : List (Str × Nat)} {scope : Scope} {elt iter : Expr} {ifs : List Expr} {Pds : List PyData → Prop} (C : Ctx X.K W S G δ σ H) (he : ITP X W S G δ tg iter Pds) (hlen : ∀ ds, Pds ds → ds.length ≤ 999) (hj : ∀ j ∈ js, j ∈ own.map (·.2)) (R : List PyData → Nat → Option PyData → Prop)
    (ht : ∀ ds i d DA acc, Pds ds → DA ∉ S → ds[i]? = some d → LcTurn X scope W (DA :: S) ((DA, .lst acc) :: G) (wipeD δ (own.map (·.2))) tg ifs elt js d (R ds i))
    (k : ∀ ds es σ' H', Pds ds → Ctx X.K W S G (δ.set i (.d (.list es))) σ' H' → Stp W.M H H' → LcRel (R ds) ds.length es → SS X r D σ' H')
    (hc : X.calm = true) (hN : X.N.Nodup) (ok : BlkOk X.N X.env.scope scope own) (hsw : swapsWith (.ListComp elt [⟨tg, iter, ifs, 0⟩] scope pos) (some (.Name x py)) spos.line X.env = pure true) (hi : X.N[i]? = some x := by rfl) (hyl : X.env.scope.names.lookup x = some .local := by rfl) (hs : ∀ x, foldedSetIterable iter X.env x = pure x := by intro _; rfl) :
    SS X (.Assign [.Name x py] (.ListComp elt [⟨tg, iter, ifs, 0⟩] scope pos) spos :: r) D σ H :=
  ss_cons (S1.of (ps_setLc (g := bG X scope tg) (tt := bT X scope ifs) (te := bE X scope elt) hc hN hi hyl hsw pie ok (fun s H C cl fp => ⟨fun pins s' σ H' v u Q I r h => h s H C cl fp pins s' u I r⟩) (fun s H C cl fp => ⟨fun pins s' σ H' Q I h => h s H C cl fp pins s' I⟩) (fun s H C cl fp => ⟨fun pins s' σ H' Q I h => h s H C cl fp pins s' I⟩) hs)
    (he σ H C _ fun J H1 ds pds C1 s1 hw DA hDA => lc_dw hw C1 hDA (hlen ds pds) hj (R ds) (fun i d acc => ht ds i d DA acc pds) fun H' es xs C' s' hl rel rs =>
      k ds es _ H' pds (C'.set i ⟨.ref DA, rfl, DA, xs, rfl, ⟨C1.trk.out hDA, hl⟩, rs.mv (Mv.sub fun x hx => List.mem_cons_of_mem _ hx)⟩) (s1.trans (stp_new hDA s')) rel))
/-- y = [.. for tg in ..] on one line, y a local, the walk's begin told by hand; the frame may be another behind it -/
theorem ss_setLcV (i : Nat) {x : Str} {py spos : Pos} {own : List (Str × Nat)} {scope : Scope} {elt iter : Expr} {ifs : List Expr} (hj : ∀ j ∈ js, j ∈ own.map (·.2)) (R : Nat → Option PyData → Prop)
    (he : ∀ Rf : It → Hp → Prop, (∀ (J : It) (H1 : Hp) (ds : List PyData) (W : Wd), ds.length ≤ 999 → DWalk X.K S H1 J ds → Ctx X.K W S G δ σ H1 → (∀ i d DA acc, DA ∉ S → ds[i]? = some d → LcTurn X scope W (DA :: S) ((DA, .lst acc) :: G) (wipeD δ (own.map (·.2))) tg ifs elt js d (R i)) →
      (∀ es σ' H', Ctx X.K W S G (δ.set i (.d (.list es))) σ' H' → LcRel R ds.length es → SS X r D σ' H') → Rf J H1) → IEx X tg iter σ H Rf)
    (hc : X.calm = true) (hN : X.N.Nodup) (ok : BlkOk X.N X.env.scope scope own) (hsw : swapsWith (.ListComp elt [⟨tg, iter, ifs, 0⟩] scope pos) (some (.Name x py)) spos.line X.env = pure true) (hi : X.N[i]? = some x := by rfl) (hyl : X.env.scope.names.lookup x = some .local := by rfl) (hs : ∀ x, foldedSetIterable iter X.env x = pure x := by intro _; rfl) :
    SS X (.Assign [.Name x py] (.ListComp elt [⟨tg, iter, ifs, 0⟩] scope pos) spos :: r) D σ H :=
  ss_cons (S1.of (ps_setLc (g := bG X scope tg) (tt := bT X scope ifs) (te := bE X scope elt) hc hN hi hyl hsw pie ok (fun s H C cl fp => ⟨fun pins s' σ H' v u Q I r h => h s H C cl fp pins s' u I r⟩) (fun s H C cl fp => ⟨fun pins s' σ H' Q I h => h s H C cl fp pins s' I⟩) (fun s H C cl fp => ⟨fun pins s' σ H' Q I h => h s H C cl fp pins s' I⟩) hs)
    (he _ fun J H1 ds W hl9 hw C1 ht k DA hDA => lc_dw hw C1 hDA hl9 hj R (fun i d acc => ht i d DA acc) fun H' es xs C' s' hl rel rs =>
      k es _ H' (C'.set i ⟨.ref DA, rfl, DA, xs, rfl, ⟨C1.trk.out hDA, hl⟩, rs.mv (Mv.sub fun x hx => List.mem_cons_of_mem _ hx)⟩) rel))
end
/-- the items of a list in another order -/
theorem rps_perm {K : PySem.W.Frag} {S : List Addr} {H : Hp} {xs out : List V} (h : out.Perm xs) : ∀ {ds : List PyData}, Rps K S H ds xs → ∃ ds' : List PyData, ds'.Perm ds ∧ Rps K S H ds' out := by
  induction h with
  | nil => exact fun {ds} r => ⟨ds, .refl _, r⟩
  | cons x _ ih =>
    intro ds r
    cases ds with
    | nil => cases r
    | cons d ds =>
      obtain ⟨v, vs, e, h1, h2⟩ := r
      cases e
      obtain ⟨ds', p, r'⟩ := ih h2
      exact ⟨d :: ds', p.cons d, _, _, rfl, h1, r'⟩
  | swap x y l =>
    intro ds r
    cases ds with
    | nil => cases r
    | cons d ds =>
      obtain ⟨v, vs, e, h1, h2⟩ := r
      cases e
      cases ds with
      | nil => cases h2
      | cons d2 ds =>
        obtain ⟨v2, vs2, e2, h3, h4⟩ := h2
        cases e2
        exact ⟨d2 :: d :: ds, .swap .., _, _, rfl, h3, _, _, rfl, h1, h4⟩
  | trans _ _ ih1 ih2 =>
    intro ds r
    obtain ⟨d1, p1, r1⟩ := ih2 r
    obtain ⟨d2, p2, r2⟩ := ih1 r1
    exact ⟨d2, p2.trans p1, r2⟩
/-- a table stays where lists alone change -/
theorem tabS_stp {H H' : Hp} {P : Addr} {q : Str} {M : List Addr} (t : LamX.TabS H P q) (st : Stp M H H') (hM : ∀ a ∈ M, ∃ xs, H a = some (.lst xs)) : LamX.TabS H' P q := by
  obtain ⟨ps, h1, h2, h3⟩ := t
  refine ⟨ps, st _ _ h1 fun z => ?_, h2, fun pos cv hc => ?_⟩
  · obtain ⟨xs, e⟩ := hM P z
    rw [h1] at e
    cases e
  · obtain ⟨c, e1, e2⟩ := h3 pos cv hc
    refine ⟨c, e1, st _ _ e2 fun z => ?_⟩
    obtain ⟨xs, e⟩ := hM c z
    rw [e2] at e
    unfold LamX.CodeO at e
    cases e
theorem deal_lst {H : Hp} {dl cl : Addr} (h : Deal H dl cl) : ∀ a ∈ [dl, cl], ∃ xs, H a = some (.lst xs) := by
  obtain ⟨_, cs, b, h1, h2, _⟩ := h
  intro a ha
  simp only [List.mem_cons, List.not_mem_nil, or_false] at ha
  rcases ha with rfl | rfl
  · exact ⟨_, h1⟩
  · exact ⟨_, h2⟩
theorem nm_of {K : PySem.W.Frag} {H : Hp} {xs : List V} (h : ∀ y ∈ xs, ∃ n, Key0 K H y n) : ∃ nm : V → Str, ∀ y ∈ xs, Key0 K H y (nm y) :=
  ⟨fun y => @dite _ (∃ n, Key0 K H y n) (Classical.propDecidable _) (fun h => h.choose) fun _ => "", fun y hy => by
    have h := h y hy
    show Key0 K H y (@dite _ (∃ n, Key0 K H y n) (Classical.propDecidable _) (fun h => h.choose) fun _ => "")
    rw [dif_pos h]
    exact h.choose_spec⟩
end Dl
/-! text A39 -/
set_option Elab.async false
set_option linter.all false
set_option maxRecDepth 100000
set_option maxHeartbeats 1000000
namespace K53
open PySem PySem.Spec PyProof.Rows L2 Dl
local macro_rules | `(tactic| walk_at "fl") => `(tactic| first | rfl | assumption | (simp only [*]; done) | decide)
/-! ### a module -/
def tc (K : PySem.W.Frag) : Addr := (He.cT K ("_law_module", none)).1
def tP (K : PySem.W.Frag) : Addr := (He.cT K ("_law_module", none)).2
def tq : Str := ("_law_module" : Str) ++ ".<locals>." ++ "<lambda>"
def ModD (d : PyData) : Prop := ∃ (t : PyData) (fs : List FnR), d = .tuple [t, .tuple (fs.map FnR.d)] ∧ (∀ f ∈ fs, FnD f) ∧ fs.length ≤ 3
def spMT (K : PySem.W.Frag) : Sp := fun vs H Q _ => ∃ (S : List Addr) (dl cl : Addr), vs = [.ref dl] ∧ Trk S H ∧ dl ∈ S ∧ cl ∈ S ∧ Deal H dl cl ∧ tP K ∈ S ∧ LamX.TabS H (tP K) tq ∧
  ∀ v H' d, Stp [dl, cl, tP K] H H' → Deal H' dl cl → LamX.TabS H' (tP K) tq → ModD d → Rp K S H' d v → Q v H'
abbrev NamesD (l : List PyData) : Prop := l ≠ [] ∧ l.length ≤ 2 ∧ l.all isT = true
abbrev HdrsD (hs : List PyData) (i : Nat) : Prop := hs.length = i + 1 ∧ ∀ h ∈ hs, Hdr h
section
variable {P : Program} {w : World} {K : PySem.W.Frag} {mg : Str → Option Value} {base : Heap}
abbrev xMd (P : Program) (w : World) (K : PySem.W.Frag) (mg : Str → Option Value) (base : Heap) (cdv : Value) (A : Around) (outer : List Env) (s : Shared) (H0 : Hp) (E : XK) : Cx := (cxOf CX0 P w K mg base ["_law_deal", "_law_headers", "_law_name", "_law_types", "_law_turn", "_law_names", "_law_told", "_law_width", "_law_size", "_law_functions", "_law_header"] "_law_module" (defScope s_L_module) (He.ga K "_law_module") cdv A outer s H0 E).nox
abbrev sM (dl : Addr) (a b c d e f g h i j : Sl) : List Sl := [.v (.ref dl), a, b, c, d, e, f, g, h, i, j]
/-- headers, names, globals -/
theorem mod_data (T : Txt K mg) {cdv A outer s H0 E} {D : Ends} {S0 : List Addr} {H : Hp} {dl cl : Addr} {σ : L2.St} (hr : Room 7 (xMd P w K mg base cdv A outer s H0 E).A) (C : Dl.Ctx (xMd P w K mg base cdv A outer s H0 E).K ⟨[dl, cl], H, [dl, cl]⟩ S0 [] (sM dl .u .u .u .u .u .u .u .u .u .u) σ H)
    (k : ∀ (hs names told : List PyData) σ' H', hs ≠ [] → hs.length ≤ 3 → (∀ h ∈ hs, Hdr h) → NamesD names → told.length ≤ 2 → Dl.Ctx (xMd P w K mg base cdv A outer s H0 E).K ⟨[dl, cl], H, [dl, cl]⟩ S0 [] (sM dl (.d (.list hs)) .u .u .u (.d (.list names)) (.d (.list told)) .u .u .u .u) σ' H' → SS (xMd P w K mg base cdv A outer s H0 E) ((defBody s_L_module).drop 5) D σ' H') :
    SS (xMd P w K mg base cdv A outer s H0 E) (defBody s_L_module) D σ H := by
  have r1 : Room 1 (xMd P w K mg base cdv A outer s H0 E).A := hr.mono (by decide)
  have r2 : Room 2 (xMd P w K mg base cdv A outer s H0 E).A := hr.mono (by decide)
  have r3 : Room 3 (xMd P w K mg base cdv A outer s H0 E).A := hr.mono (by decide)
  refine ss_setN 1 (X := xMd P w K mg base cdv A outer s H0 E) C (Ps := fun hs => HdrsD hs 0) ((ne_lst (da_lastG (h0 := fun t : PyData => .tuple [.str "main", .tuple [], t]) (Pi := fun t => isN t = true) ((de_tupG (g := fun t : PyData => [.str "main", .tuple [], t]) (da_consG de_str (g := fun t : PyData => [.tuple [], t]) (da_consG (de_tupE da_nilE) (g := fun t : PyData => [t]) (da_lastG (h0 := fun t : PyData => t) ((de_of (ok_of T) r2 rfl rfl de_lit).imp fun d hd => ⟨d, all_of (by decide) hd, rfl⟩))))).imp fun d h => h)) (fun ds ⟨i, _, e⟩ => by rw [e]; simp)).imp fun ds ⟨t, ht, e⟩ => ?hd0) (fun hp hs0 σ1 H1 hhp C1 _ ph => ?_) sc_L_module.nd
  case hd0 =>
    rw [e]
    refine ⟨rfl, fun h hh => ?_⟩
    rw [List.mem_singleton.mp hh]
    exact ⟨_, _, _, rfl, rfl, rfl, by decide, ht⟩
  refine ss_forP (X := xMd P w K mg base cdv A outer s H0 E) (γ := List PyData) (js := [2]) (fun hs => [(hp, .lst hs)]) (fun _ => sM dl (.v (.ref hp)) .u .u .u .u .u .u .u .u .u) (fun ds i hs => HdrsD hs i) hs0 (Pds := fun l => l.length ≤ 2 ∧ l.all isT = true) (δt := fun _ d => sM dl (.v (.ref hp)) (.d d) .u .u .u .u .u .u .u .u) C1
    (itp_list ((de_of (ok_of T) r2 rfl rfl de_lit).imp fun d hd => ?lits)) (fun _ _ => ph) (fun W' g d ds i eds hd => gd_name 2 sc_L_module.nd) ?_ ?_ rfl PassesOwn.never
  case lits =>
    have hd : d ∈ [PyData.list [], .list [.str "f"], .list [.str "f", .str "z9"], .list [.str "Up", .str "n_"]] := hd
    simp only [List.mem_cons, List.not_mem_nil, or_false] at hd
    rcases hd with rfl | rfl | rfl | rfl <;> exact ⟨_, rfl, by decide, by decide⟩
  · rintro W1 ds i d hs σ2 H2 hW1 ⟨pd1, pd2⟩ hd ⟨hl, hh⟩ C2
    have hdT : isT d = true := all_of pd2 (List.mem_of_getElem? hd)
    have hi : i < ds.length := (List.getElem?_eq_some_iff.mp hd).1
    refine ss_setLcP 3 (X := xMd P w K mg base cdv A outer s H0 E) (own := [("_law_turn", 4)]) (js := [4]) (Pds := fun ds => ∃ k, ds = rng k ∧ k ≤ 2) C2 (itp_range (Pn := fun k => k ≤ 2) (DE.imp (de_any (n := 3) (ok_any T) r1 hW1 rfl de_int) fun d ⟨i, e, g1, g2⟩ => ⟨i.toNat, by rw [e, Int.toNat_of_nonneg g1], by omega, by omega⟩) T.n_range) (fun ds ⟨k, e, hk⟩ => by rw [e, rng_len]; omega) (by decide) (fun _ _ o => ∃ e, o = some e ∧ isS e = true) (fun ds i2 d2 DA2 acc2 _ hDA2 hd2 => ?turn) (fun ds es σ3 H3 ⟨k, e, hk⟩ C3 _ rel => ?_) rfl sc_L_module.nd bk_L_module_0 rfl
    case turn =>
      refine ⟨sM dl (.v (.ref hp)) (.d d) .u (.d d2) .u .u .u .u .u .u, fun k => k = true, fun d => isS d = true, fun s H C cl fp => gd_name 4 sc_L_module.nd, fun s H C cl fp => bes_nil, fun _ s3 H3 Cb cl3 fp3 => ?_, (fun z => by cases z), fun d' _ e => ⟨d', rfl, e⟩⟩
      exact DE.imp (de_of (ok_of T) (by exact r2) hW1 rfl de_lit) fun d hd => all_of (by decide) hd
    have al := rel.all (fun i ⟨_, z, _⟩ => by cases z)
    rw [e, rng_len] at al
    have hes : es.all isS = true := by
      rw [List.all_eq_true]
      intro t ht
      obtain ⟨i3, hi3⟩ := List.mem_iff_getElem?.mp ht
      obtain ⟨z, z1, z2⟩ := al.2 i3 t hi3
      cases z1
      exact z2
    have C3 : Dl.Ctx (xMd P w K mg base cdv A outer s H0 E).K W1 (hp :: S0) [(hp, .lst hs)] (sM dl (.v (.ref hp)) (.d d) (.d (.list es)) .u .u .u .u .u .u .u) σ3 H3 := C3
    refine ss_append 1 (X := xMd P w K mg base cdv A outer s H0 E) C3 rfl (by omega) (by simp) (P := fun z => ∃ t : PyData, isN t = true ∧ z = .tuple [d, .tuple es, t]) (de_tupG (g := fun t : PyData => [d, .tuple es, t]) (da_consG (de_var 2 rfl) (g := fun t : PyData => [.tuple es, t]) (da_consG ((de_tupleOf (Ps := fun l => l = es) T.n_tuple ((de_var 3 rfl).imp fun z e => ⟨es, by rw [e]; rfl, rfl⟩)).imp fun z ⟨l, e, el⟩ => by rw [e, el]) (g := fun t : PyData => [t]) (da_lastG (h0 := fun t : PyData => t) ((de_of (ok_of T) r2 hW1 rfl de_lit).imp fun d hd => ⟨d, all_of (by decide) hd, rfl⟩))))) (fun z σ4 H4 C4 _ ⟨t, ht, e⟩ => ?_)
    subst e
    refine ss_nil ⟨hs ++ [.tuple [d, .tuple es, t]], ⟨by rw [List.length_append, hl]; rfl, fun h hh2 => ?_⟩, ((C4.u 2).u 3)⟩
    rcases List.mem_append.mp hh2 with z | z
    · exact hh h z
    · rw [List.mem_singleton.mp z]
      exact ⟨_, _, _, rfl, hdT, hes, by omega, ht⟩
  · rintro ds hs σ2 H2 ⟨pd1, pd2⟩ ⟨hl, hh⟩ C2
    have C2 : Dl.Ctx (xMd P w K mg base cdv A outer s H0 E).K ⟨[dl, cl], H, [dl, cl]⟩ (hp :: S0) [(hp, .lst hs)] (sM dl (.v (.ref hp)) .u .u .u .u .u .u .u .u .u) σ2 H2 := C2
    have C3 : Dl.Ctx (xMd P w K mg base cdv A outer s H0 E).K ⟨[dl, cl], H, [dl, cl]⟩ S0 [] (sM dl (.d (.list hs)) .u .u .u .u .u .u .u .u .u) σ2 H2 := C2.solid 1 hhp (by simp) (fun a ha => (C.ms a ha).1) rfl
    refine ss_set 5 (X := xMd P w K mg base cdv A outer s H0 E) C3 (P := fun d => ∃ l, d = .list l ∧ NamesD l) ((de_of (ok_of T) r2 rfl rfl de_lit).imp fun d hd => ?lits2) (fun d σ3 H3 C4 _ ⟨names, e, hn⟩ => ?_) sc_L_module.nd
    case lits2 =>
      have hd : d ∈ [PyData.list [.str "a"], .list [.str "g", .str "t"], .list [.str "Z", .str "m2"]] := hd
      simp only [List.mem_cons, List.not_mem_nil, or_false] at hd
      rcases hd with rfl | rfl | rfl <;> exact ⟨_, rfl, by simp, by decide, by decide⟩
    subst e
    refine ss_setN 6 (X := xMd P w K mg base cdv A outer s H0 E) C4 ne_nil (fun tp d0 σ4 H4 htp C5 _ e => ?_) sc_L_module.nd
    subst e
    refine ss_forI (X := xMd P w K mg base cdv A outer s H0 E) (γ := List PyData) (js := [2]) (fun told => [(tp, .lst told)]) (fun _ => sM dl (.d (.list hs)) .u .u .u (.d (.list names)) (.v (.ref tp)) .u .u .u .u) (fun i told => told.length = i) [] (δt := fun _ d => sM dl (.d (.list hs)) (.d d) .u .u (.d (.list names)) (.v (.ref tp)) .u .u .u .u) (ds := names) C5
      (it_data (y := .list names) (de_var 5 rfl) rfl) rfl (fun W' g d => gd_name 2 sc_L_module.nd) ?_ ?_ rfl PassesOwn.never
    · rintro W1 i d told σ5 H5 hW1 hd hl5 C6
      have hi : i < names.length := (List.getElem?_eq_some_iff.mp hd).1
      have hn2 := hn.2.1
      refine ss_parEEt 7 8 (X := xMd P w K mg base cdv A outer s H0 E) (Pa := fun d => ∃ n : Nat, d = .int (n : Int) ∧ n ≤ 64) (Pb := fun d => ∃ n : Nat, d = .int (n : Int) ∧ n ≤ 3) C6 rfl ((de_of (ok_of T) r2 hW1 rfl de_lit).imp fun d hd => ?wid) ((de_opN0 (pr := fun i => 1 ≤ i ∧ i ≤ 3) op_add (de_I de_int) (de_any (n := 3) (ok_any T) r1 hW1 rfl de_int) fun i j h1 h2 => by omega).imp fun d ⟨i, e, g1, g2⟩ => ⟨i.toNat, by rw [e, Int.toNat_of_nonneg (by omega)], by omega⟩) (fun da db σ6 H6 C7 _ ⟨wn, e1, hw⟩ ⟨sn, e2, hsz⟩ => ?_) sc_L_module.nd
      case wid =>
        have hd : d ∈ [PyData.int 8, .int 8, .int 8, .int 8, .int 32, .int 1] := hd
        simp only [List.mem_cons, List.not_mem_nil, or_false] at hd
        rcases hd with rfl | rfl | rfl | rfl | rfl | rfl
        · exact ⟨8, rfl, by decide⟩
        · exact ⟨8, rfl, by decide⟩
        · exact ⟨8, rfl, by decide⟩
        · exact ⟨8, rfl, by decide⟩
        · exact ⟨32, rfl, by decide⟩
        · exact ⟨1, rfl, by decide⟩
      subst e1 e2
      refine ss_append 6 (X := xMd P w K mg base cdv A outer s H0 E) C7 rfl (by omega) (by simp) (P := fun z => ∃ t : List PyData, True ∧ z = .tuple [d, .int (wn : Int), .int (sn : Int), .tuple t]) (de_tupG (g := fun t : List PyData => [d, .int (wn : Int), .int (sn : Int), .tuple t]) (da_consG (de_var 2 rfl) (g := fun t : List PyData => [.int (wn : Int), .int (sn : Int), .tuple t]) (da_consG (de_var 7 rfl) (g := fun t : List PyData => [.int (sn : Int), .tuple t]) (da_consG (de_var 8 rfl) (g := fun t : List PyData => [.tuple t]) (da_lastG (h0 := fun t : List PyData => .tuple t) ((de_tupleOf (Ps := fun _ => True) T.n_tuple ((NE.de (ne_lcI (own := [("_law_turn", 4)]) (js := [4]) (ds := rng sn) (it_range (n := sn) (de_var 8 rfl) (by omega) T.n_range) (by rw [rng_len]; omega) (by decide) (fun _ _ => True) (fun i2 d2 DA2 acc2 hDA2 hd2 => ?turn3) rfl sc_L_module.nd bk_L_module_1)).imp fun d ⟨l, e, _⟩ => ⟨l, by rw [e]; rfl, True.intro⟩)).imp fun d ⟨l, e, _⟩ => ⟨l, True.intro, e⟩)))))) (fun z σ7 H7 C8 _ ⟨t, _, e⟩ => ?_)
      case turn3 =>
        exact ⟨sM dl (.d (.list hs)) (.d d) .u (.d d2) (.d (.list names)) (.v (.ref tp)) (.d (.int (wn : Int))) (.d (.int (sn : Int))) .u .u, fun k => k = true, fun _ => True, fun s H C cl fp => gd_name 4 sc_L_module.nd, fun s H C cl fp => bes_nil, fun _ s3 H3 Cb cl3 fp3 => (de_callM 0 hW1 rfl (ok_number T) (by exact r3) (da_consE (de_var 7 rfl) da_nilE) (pre1 wn ⟨rfl, hw⟩ fun d h => h)).imp fun _ _ => True.intro, (fun _ => True.intro), fun _ _ _ => True.intro⟩
      refine ss_nil ⟨told ++ [z], by show (told ++ [z]).length = i + 1; rw [List.length_append, hl5]; rfl, (((C8.u 2).u 7).u 8)⟩
    · rintro told σ5 H5 hl5 C6
      have C6 : Dl.Ctx (xMd P w K mg base cdv A outer s H0 E).K ⟨[dl, cl], H, [dl, cl]⟩ (tp :: S0) [(tp, .lst told)] (sM dl (.d (.list hs)) .u .u .u (.d (.list names)) (.v (.ref tp)) .u .u .u .u) σ5 H5 := C6
      have C7 : Dl.Ctx (xMd P w K mg base cdv A outer s H0 E).K ⟨[dl, cl], H, [dl, cl]⟩ S0 [] (sM dl (.d (.list hs)) .u .u .u (.d (.list names)) (.d (.list told)) .u .u .u .u) σ5 H5 := C6.solid 6 htp (by simp) (fun a ha => (C.ms a ha).1) rfl
      exact k hs names told σ5 H5 (fun z => by rw [z] at hl; cases hl) (by omega) hh hn (by rw [hl5]; exact hn.2.1) C7
end
end K53
/-! text A40 -/
set_option Elab.async false
set_option linter.all false
set_option maxRecDepth 100000
set_option maxHeartbeats 1000000
namespace K53
open PySem PySem.Spec PyProof.Rows L2 Dl
local macro_rules | `(tactic| walk_at "fl") => `(tactic| first | rfl | assumption | (simp only [*]; done) | decide)
theorem fns_of : ∀ {es : List PyData}, (∀ d ∈ es, ∃ f : FnR, d = f.d ∧ FnD f) → ∃ fs : List FnR, es = fs.map FnR.d ∧ ∀ f ∈ fs, FnD f
  | [], _ => ⟨[], rfl, by simp⟩
  | d :: es, h => by
    obtain ⟨f, e, fd⟩ := h d List.mem_cons_self
    obtain ⟨fs, e2, fds⟩ := fns_of (es := es) fun d hd => h d (List.mem_cons_of_mem _ hd)
    refine ⟨f :: fs, by rw [e, e2]; rfl, fun g hg => ?_⟩
    rcases List.mem_cons.mp hg with z | z
    · rw [z]; exact fd
    · exact fds g z
theorem hdr_key {K : PySem.W.Frag} {S : List Addr} {H : Hp} {h : PyData} {y : V} (hd : Hdr h) (r : Rp K S H h y) : ∃ n, Key0 K H y n := by
  obtain ⟨f, ts, t, rfl, hf, _⟩ := hd
  obtain ⟨x, rfl⟩ := isT_str hf
  obtain ⟨p, xs, rfl, ht, v0, rest, e, h0, _⟩ := r
  have h0 : v0 = .str x := h0
  subst e h0
  exact ⟨x, p, rest, rfl, ht.sq⟩
section
variable {P : Program} {w : World} {K : PySem.W.Frag} {mg : Str → Option Value} {base : Heap}
theorem ok_module (T : Txt K mg) (TB : LamX.TabB base mg (tc K) (tP K)) : DefOk P w K mg base 8 "_law_module" ["_law_deal"] (spMT K) := by
  obtain ⟨fd, F⟩ := T.F_L_module
  have Fb := F.bindsN b_L_module
  have Fk := F.kp
  obtain ⟨oc, od, dV, kV, doc, pm, an, cdv, ct, osl, rfl, lk, hcd, _, _⟩ := F.ex
  refine ⟨_, _, T.g_L_module, Fk, Fb, fn_of lk hcd sc_L_module (fun vs H Q E q => ?_) fun A outer s H vs Q E hr q => ?_⟩
  · obtain ⟨S, dl, cl, rfl, _⟩ := q
    rfl
  obtain ⟨c0, rfl⟩ := He.codeIn_ref hcd
  have hc0 : c0 = tc K := (He.codeOf_eq (K := K) (p := ("_law_module", none)) lk rfl).symm
  subst hc0
  obtain ⟨S, dl, cl, rfl, t, hdS, hcS, hD0, hPS, hT0, hQ⟩ := q
  refine ⟨_, PSs.nox psse, ?_⟩
  show SS (xMd P w K mg base (.ref (tc K)) A outer s H E) (defBody s_L_module) { nx := fun _ H' => Q .non H', rt := Q } ([some (.ref dl)] ++ List.replicate 10 none) H
  have hr : Room 7 (xMd P w K mg base (.ref (tc K)) A outer s H E).A := hr
  have hu : (xMd P w K mg base (.ref (tc K)) A outer s H E).A.units + 64 < cLine := hr.units
  have C0 : Dl.Ctx (xMd P w K mg base (.ref (tc K)) A outer s H E).K ⟨[dl, cl], H, [dl, cl]⟩ S [] (sM dl .u .u .u .u .u .u .u .u .u .u) ([some (.ref dl)] ++ List.replicate 10 none) H := by
    refine ⟨⟨_, _, rfl, rfl, start_env (ds := []) (vs := []) 10 rfl⟩, .inr ⟨dl, cl, rfl, hD0⟩, fun a ha => ⟨?_, ha⟩, (fun p hp => by cases hp), t, .refl⟩
    have ha : a ∈ [dl, cl] := ha
    simp only [List.mem_cons, List.not_mem_nil, or_false] at ha
    rcases ha with rfl | rfl
    · exact hdS
    · exact hcS
  refine mod_data T hr C0 fun hs names told σ1 H1 hne hl3 hh hn ht C1 => ?_
  have hT1 : LamX.TabS H1 (tP K) tq := tabS_stp hT0 C1.fr (deal_lst hD0)
  refine ss_setLcV 9 (X := xMd P w K mg base (.ref (tc K)) A outer s H E) (own := [("_law_header", 10)]) (js := [10]) (S := S) (G := []) (δ := sM dl (.d (.list hs)) .u .u .u (.d (.list names)) (.d (.list told)) .u .u .u .u) (by decide) (fun i o => ∃ f : FnR, o = some f.d ∧ FnD f) (fun Rf hRf => ?_) rfl sc_L_module.nd bk_L_module_2 rfl
  refine IEx.of (pi_list pee) (ee_sortKey0 (X := xMd P w K mg base (.ref (tc K)) A outer s H E) (q := tq) (x := "_law_header") T.n_sorted hr.depth hu TB rfl rfl ?ha rfl rfl rfl rfl (by decide) (by decide) (by decide) rfl (fun _ _ _ _ _ => rfl))
  case ha =>
    refine (de_var (X := xMd P w K mg base (.ref (tc K)) A outer s H E) 1 rfl) σ1 H1 C1 _ fun v H2 d C2 s2 e rv => ?_
    subst e
    obtain ⟨l, xs, rfl, ⟨h1, h2⟩, rs⟩ := rv
    have hkeys : ∀ y ∈ xs, ∃ n, Key0 K H2 y n := fun y hy => by
      obtain ⟨i, hi⟩ := List.mem_iff_getElem?.mp hy
      obtain ⟨h, hhi, r⟩ := rs.getV hi
      exact hdr_key (hh h (List.mem_of_getElem? hhi)) r
    obtain ⟨nm, hnm⟩ := nm_of hkeys
    have hT2 : LamX.TabS H2 (tP K) tq := tabS_stp hT0 C2.fr (deal_lst hD0)
    refine ⟨l, xs, nm, rfl, .inl (.inl h2), hnm, hT2, fun H3 st3 hT3 r out hp hr3 => ⟨r, rfl, ⟨out, .inl (.inl upd_same)⟩, ?_⟩⟩
    have hD2 : Deal H2 dl cl := C2.dealM
    obtain ⟨ps, hP2, _⟩ := hT2
    have nP : ∀ a ∈ [dl, cl], a ≠ tP K := fun a ha z => by
      obtain ⟨ys, e⟩ := deal_lst hD2 a ha
      rw [z, hP2] at e
      cases e
    have st4 : Stp [tP K] H2 (upd H3 r (.lst out)) := st3.trans (Stp.new hr3).nil
    have mv4 : Mv S S H2 (upd H3 r (.lst out)) := fun a o e n => ⟨st4 a o e fun z => n (by rw [List.mem_singleton.mp z]; exact hPS), n⟩
    have lst4 : ∀ (a : Addr) (ys : List V), H2 a = some (.lst ys) → upd H3 r (.lst out) a = some (.lst ys) := fun a ys e => st4 a _ e fun z => by
      rw [List.mem_singleton.mp z, hP2] at e
      cases e
    have hD4 : Deal (upd H3 r (.lst out)) dl cl := by
      obtain ⟨g0, cs, b, g1, g2, g3⟩ := hD2
      exact ⟨g0, cs, b, lst4 _ _ g1, lst4 _ _ g2, g3⟩
    have hT4 : LamX.TabS (upd H3 r (.lst out)) (tP K) tq := tabS_stp (M := []) hT3 (Stp.new hr3) (fun a ha => by cases ha)
    have tr4 : Trk S (upd H3 r (.lst out)) := fun a ha z => by
      by_cases q : a = tP K
      · obtain ⟨ps4, e, _⟩ := hT4
        rw [q, e] at z
        cases z
      · cases q2 : H2 a with
        | none => exact C2.trk a ha q2
        | some o =>
          rw [st4 a o q2 fun z => q (List.mem_singleton.mp z)] at z
          cases z
    have hrS : r ∉ S := fun z => by
      by_cases q : r = tP K
      · obtain ⟨ps3, e, _⟩ := hT3
        rw [← q, hr3] at e
        cases e
      · cases q2 : H2 r with
        | none => exact C2.trk r z q2
        | some o =>
          rw [st3 r o q2 fun z => q (List.mem_singleton.mp z)] at hr3
          cases hr3
    have C4 : Dl.Ctx (xMd P w K mg base (.ref (tc K)) A outer s H E).K ⟨[dl, cl], upd H3 r (.lst out), [dl, cl]⟩ S [] (sM dl (.d (.list hs)) .u .u .u (.d (.list names)) (.d (.list told)) .u .u .u .u) σ1 (upd H3 r (.lst out)) :=
      ⟨C2.env.mv mv4, .inr ⟨dl, cl, rfl, hD4⟩, fun a ha => ⟨(C2.ms a ha).1, ha⟩, (fun p hp => by cases hp), tr4, .refl⟩
    obtain ⟨ds', hpd, rs'⟩ := rps_perm hp rs
    have hdl : ds'.length ≤ 3 := by rw [hpd.length_eq]; exact hl3
    refine hRf _ _ ds' ⟨[dl, cl], upd H3 r (.lst out), [dl, cl]⟩ (by omega) (dw_list ⟨hrS, upd_same⟩ (rs'.mv mv4)) C4 (fun i d DA acc hDA hd => ?turn) (fun es σ5 H5 C5 rel => ?fin)
    case turn =>
      have hdh : Hdr d := hh d (hpd.mem_iff.mp (List.mem_of_getElem? hd))
      obtain ⟨f, ts, t, rfl, hf, hts, htl, htn⟩ := hdh
      refine ⟨sM dl (.d (.list hs)) .u .u .u (.d (.list names)) (.d (.list told)) .u .u .u (.d (.tuple [f, .tuple ts, t])), fun k => k = true, fun d => ∃ f : FnR, d = f.d ∧ FnD f, fun s H C cl fp => gd_name 10 sc_L_module.nd, fun s H C cl fp => bes_nil, fun _ s3 H3 Cb cl3 fp3 => ?_, (fun z => by cases z), fun d' _ ⟨f, e, fd⟩ => ⟨f, by rw [e], fd⟩⟩
      exact de_callM 0 rfl rfl (ok_function T) (by exact hr) (da_consE (de_var 10 rfl) (da_consE (de_var 1 rfl) (da_consE (de_var 5 rfl) da_nilE))) (pre1 (⟨f, ts, t, hs, names⟩ : FnPre) ⟨rfl, hf, hts, htl, htn, hne, by dsimp only; omega, hh, hn.1, by have := hn.2.1; dsimp only; omega, hn.2.2⟩ fun d ⟨f, e, fd, _⟩ => ⟨f, e, fd⟩)
    case fin =>
      have al := rel.all (fun i ⟨_, z, _⟩ => by cases z)
      obtain ⟨fs, efs, hfs⟩ := fns_of (es := es) fun d hd => by
        obtain ⟨i, hi⟩ := List.mem_iff_getElem?.mp hd
        obtain ⟨f, e, fd⟩ := al.2 i d hi
        cases e
        exact ⟨f, rfl, fd⟩
      subst efs
      have hfl : fs.length ≤ 3 := by
        have := al.1
        rw [List.length_map] at this
        omega
      have C5 : Dl.Ctx (xMd P w K mg base (.ref (tc K)) A outer s H E).K ⟨[dl, cl], upd H3 r (.lst out), [dl, cl]⟩ S [] (sM dl (.d (.list hs)) .u .u .u (.d (.list names)) (.d (.list told)) .u .u (.d (.list (fs.map FnR.d))) .u) σ5 H5 := C5
      refine ss_ret (v' := Q) C5 (P := fun d => d = .tuple [.tuple told, .tuple (fs.map FnR.d)]) (de_tupE (da_consE ((de_tupleOf (Ps := fun l => l = told) T.n_tuple ((de_var 6 rfl).imp fun z e => ⟨told, by rw [e]; rfl, rfl⟩)).imp fun z ⟨l, e, el⟩ => by rw [e, el]) (da_consE ((de_tupleOf (Ps := fun l => l = fs.map FnR.d) T.n_tuple ((de_var 9 rfl).imp fun z e => ⟨fs.map FnR.d, by rw [e]; rfl, rfl⟩)).imp fun z ⟨l, e, el⟩ => by rw [e, el]) da_nilE))) fun v H6 d C6 _ e rv => ?_
      subst e
      refine hQ v H6 _ ?_ C6.dealM (tabS_stp hT4 C6.fr (deal_lst hD4)) ⟨.tuple told, fs, rfl, hfs, hfl⟩ rv
      have a1 : Stp [dl, cl, tP K] H H2 := C2.fr.mono fun x hx => by
        have hx : x ∈ [dl, cl] := hx
        simp only [List.mem_cons, List.not_mem_nil, or_false] at hx ⊢
        exact hx.elim .inl fun z => .inr (.inl z)
      have a2 : Stp [dl, cl, tP K] H2 (upd H3 r (.lst out)) := st4.mono fun x hx => by
        simp only [List.mem_cons, List.not_mem_nil, or_false] at hx ⊢
        exact .inr (.inr hx)
      have a3 : Stp [dl, cl, tP K] (upd H3 r (.lst out)) H6 := C6.fr.mono fun x hx => by
        have hx : x ∈ [dl, cl] := hx
        simp only [List.mem_cons, List.not_mem_nil, or_false] at hx ⊢
        exact hx.elim .inl fun z => .inr (.inl z)
      exact (a1.trans a2).trans a3
end
end K53
/-! text A30 -/
set_option Elab.async false
set_option linter.all false
set_option maxRecDepth 100000
set_option maxHeartbeats 1000000
namespace K53
open PySem PySem.Spec PyProof.Rows L2 Dl
local macro_rules | `(tactic| walk_at "fl") => `(tactic| first | rfl | assumption | (simp only [*]; done) | decide)
section
variable {P : Program} {w : World} {K : PySem.W.Frag} {mg : Str → Option Value} {base : Heap}
/-- the part of a weight that a kind and a word tell -/
def opw0 (kind : Str) (word : PyData) : Int := if decide (fV (.str kind) = fV (.str "bin")) = true then (if isIn word [.str "udiv", .str "sdiv", .str "urem", .str "srem"] = true then 9 else if decide (fV word = fV (.str "mul")) = true then 8 else if decide (fV word = fV (.str "sub")) = true then 4 else 3) else if decide (fV (.str kind) = fV (.str "at")) = true then 1 else 2
theorem opw_eq (kind : Str) (word tag : PyData) : opw kind word tag = opw0 kind word + (if (isIn (.str kind) [.str "bin", .str "cmp"] && (isIn word [.str "add", .str "mul", .str "and", .str "or", .str "xor", .str "eq", .str "ne"] && decide (fV tag = fV (.str "n")))) = true then 1 else 0) := rfl
theorem b_opK : KwW "op_weight" (defArgs s_op_weight) (defBody s_op_weight) (defScope s_op_weight) "op" := fun _ _ _ _ _ _ _ => rfl
abbrev preOW (x : Str × PyData × PyData) (ds : List PyData) : Prop := ∃ d, ds = [d] ∧ WOp x d ∧ (x.1 = "bin" → isT x.2.1 = true)
abbrev postOW (x : Str × PyData × PyData) (d : PyData) : Prop := d = .int (opw x.1 x.2.1 x.2.2)
theorem ok_op_weight (T : Txt K mg) : DefOk P w K mg base 1 "op_weight" ["op"] (spP K preOW postOW) ∧ DefK P w K mg base 1 "op_weight" "op" (spP K preOW postOW) := by
  refine def_PK T.F_op_weight T.g_op_weight b_op_weight b_opK sc_op_weight (by rintro n _ ⟨d, rfl, _⟩; rfl) ?_
  rintro X ⟨cdv, A, outer, s, H0, E, hr, rfl⟩ ⟨kind, word, tag⟩ S0 H ds σ Q C ⟨d, rfl, ⟨v, info, z, as, rfl, fw, ft, st, sw⟩, hbin⟩ hQ
  dsimp only at C fw ft st sw hQ hbin
  have hu : (A.deeper (envOfC "op_weight" (defScope s_op_weight) s.heap.objs.size (He.ga K "op_weight") cdv)).units + 1 < cLine := by have := hr.units; omega
  have fin : ∀ (m : Int) σ H', Dl.Ctx K ⟨[], H, []⟩ S0 [] [.d (.tuple [v, .str kind, .tuple (word :: info), .tuple (.tuple [tag, z] :: as)]), .d (.int m)] σ H' → m = opw0 kind word →
      SS (cxOf CX0 P w K mg base ["op", "weight"] "op_weight" (defScope s_op_weight) (He.ga K "op_weight") cdv A outer s H0 E).nox ((defBody s_op_weight).drop 1) { nx := fun _ H' => Q .non H', rt := Q } σ H' := by
    intro m σ H' C2 hm
    refine ss_if C2 (be_and3 (be_in rfl (de_ix (d := .str kind) (de_var 0 rfl) de_int rfl) de_lit rfl rfl) (fun _ => be_in rfl (de_ix (d := word) (de_ix (d := .tuple (word :: info)) (de_var 0 rfl) de_int rfl) de_int rfl) (de_const (ds := [.str "add", .str "mul", .str "and", .str "or", .str "xor", .str "eq", .str "ne"]) T.g_TURNED rfl T.c_TURNED (fun _ _ => ⟨_, _, rfl, rfl, _, _, rfl, rfl, _, _, rfl, rfl, _, _, rfl, rfl, _, _, rfl, rfl, _, _, rfl, rfl, _, _, rfl, rfl, rfl⟩)) fw rfl) (fun _ _ => be_eq (de_ix (d := tag) (de_ix (d := .tuple [tag, z]) (de_ix (d := .tuple (.tuple [tag, z] :: as)) (de_var 0 rfl) de_int rfl) de_int rfl) de_int rfl) de_str (st "n"))) (fun H3 C3 _ e => ?_) (fun H3 C3 _ e => ?_)
    · refine ss_ret (v' := Q) C3 (de_add (de_var 1 rfl) de_int) fun v H' d C' st pd rv => hQ v H' d C'.fr ?_ rv
      rw [pd, hm]
      show PyData.int (opw0 kind word + 1) = .int (opw kind word tag)
      rw [opw_eq, if_pos e.symm]
    · refine ss_nil ?_
      refine ss_ret (v' := Q) C3 (de_var 1 rfl) fun v H' d C' st pd rv => hQ v H' d C'.fr ?_ rv
      rw [pd, hm]
      show PyData.int (opw0 kind word) = .int (opw kind word tag)
      rw [opw_eq, if_neg (fun z => Bool.noConfusion (e.trans z)), Int.add_zero]
  refine ss_if C (be_eq (de_ix (d := .str kind) (de_var 0 rfl) de_int rfl) de_str rfl) (fun H1 C1 _ e1 => ?_) (fun H1 C1 _ e1 => ?_)
  · have hk := str_eq e1.symm
    obtain ⟨wd, rfl⟩ := isT_str (hbin hk)
    refine ss_set 1 C1 (de_ifE (k := isIn (.str wd) [.str "udiv", .str "sdiv", .str "urem", .str "srem"]) (be_in rfl (de_ix (d := .str wd) (de_ix (d := .tuple (.str wd :: info)) (de_var 0 rfl) de_int rfl) de_int rfl) (de_const (ds := [.str "udiv", .str "sdiv", .str "urem", .str "srem"]) T.g_DIVISIONS rfl T.c_DIVISIONS (fun _ _ => ⟨_, _, rfl, rfl, _, _, rfl, rfl, _, _, rfl, rfl, _, _, rfl, rfl, rfl⟩)) rfl rfl) (fun _ => de_int) (fun _ => de_get2 (k := Sum.inr wd) (m := [(Sum.inr "mul", .int 8), (Sum.inr "sub", .int 4)]) hu (DE.imp (ND.de (nd_disp2 (k1 := Sum.inr "mul") (k2 := Sum.inr "sub") de_str de_int de_str de_int (by decide))) fun d ⟨m, e, em⟩ => by rw [e, em]) (de_ix (d := .str wd) (de_ix (d := .tuple (.str wd :: info)) (de_var 0 rfl) de_int rfl) de_int rfl) rfl de_int)) (fun d σ2 H2 C2 _ e => ?_) sc_op_weight.nd
    have e3 : d = .int (opw0 kind (.str wd)) := by
      rw [e]
      unfold opw0
      rw [if_pos e1.symm]
      split
      · rfl
      · by_cases h1 : wd = "mul"
        · subst h1; rfl
        · by_cases h2 : wd = "sub"
          · subst h2; rfl
          · have n1 : ¬ (Str.ofString "mul" : Str) = wd := fun z => h1 z.symm
            have n2 : ¬ (Str.ofString "sub" : Str) = wd := fun z => h2 z.symm
            have n3 : ¬ wd = (Str.ofString "mul" : Str) := fun z => h1 z
            have n4 : ¬ wd = (Str.ofString "sub" : Str) := fun z => h2 z
            simp [dvl, fV, n1, n2, n3, n4]
    subst e3
    exact ss_nil (fin _ σ2 H2 C2 rfl)
  · refine ss_set 1 C1 (de_ifI (be_eq (de_ix (d := .str kind) (de_var 0 rfl) de_int rfl) de_str rfl) (fun _ => de_int) (fun _ => de_int)) (fun d σ2 H2 C2 _ e => ?_) sc_op_weight.nd
    subst e
    refine ss_nil (fin _ σ2 H2 C2 ?_)
    unfold opw0
    rw [if_neg (fun z => Bool.noConfusion (e1.trans z))]
end
end K53
/-! text A31 -/
set_option Elab.async false
set_option linter.all false
set_option maxRecDepth 100000
set_option maxHeartbeats 1000000
namespace K53
open PySem PySem.Spec PyProof.Rows L2 Dl
local macro_rules | `(tactic| walk_at "fl") => `(tactic| first | rfl | assumption | (simp only [*]; done) | decide)
/-! ### the weighed ops of reached blocks -/
def wkind (k : Str) : Bool := isIn (.str k) [.str "bin", .str "cmp", .str "select", .str "cast", .str "at"]
def vI : PyData → Int
  | .int i => i
  | _ => 0
def opK (o : OpI) : Key × PyData := (Sum.inl (vI o.v), o.d)
def opsOf (p : BlkR → Bool) (bl : List BlkR) : List OpI := (bl.filter p).flatMap (·.ops)
def wops (p : BlkR → Bool) (bl : List BlkR) : List OpI := (opsOf p bl).filter fun o => wkind o.kind
noncomputable def reB (bl : List BlkR) (b : BlkR) : Bool := @decide (ReachL bl b.label) (Classical.propDecidable _)
theorem reB_eq {bl : List BlkR} {R : List Nat} (h : ∀ l, l ∈ R ↔ ReachL bl l) (b : BlkR) : reB bl b = decide (b.label ∈ R) := by
  have e : reB bl b = true ↔ ReachL bl b.label := @decide_eq_true_iff _ (Classical.propDecidable _)
  rw [Bool.eq_iff_iff, e, decide_eq_true_iff, h]
noncomputable def wdm (bl : List BlkR) : List (Key × PyData) := dmk ((wops (reB bl) bl).map opK)
theorem range_flatMap {α β : Type} (g : α → List β) : ∀ (l : List α), (List.range l.length).flatMap (fun i => (l[i]?).elim [] g) = l.flatMap g
  | [] => rfl
  | a :: l => by
    rw [List.length_cons, List.range_succ_eq_map, List.flatMap_cons, List.flatMap_map]
    exact congrArg _ (range_flatMap g l)
theorem opsOf_eq (p : BlkR → Bool) : ∀ bl : List BlkR, bl.flatMap (fun b => if p b = true then b.ops.map OpI.d else []) = (opsOf p bl).map OpI.d
  | [] => rfl
  | b :: bl => by
    have ih := opsOf_eq p bl
    unfold opsOf at ih ⊢
    rw [List.flatMap_cons, ih]
    by_cases h : p b = true
    · rw [List.filter_cons_of_pos h, List.flatMap_cons, List.map_append, if_pos h]
    · rw [List.filter_cons_of_neg h, if_neg h]; rfl
theorem opsOf_len {p : BlkR → Bool} : ∀ {bl : List BlkR}, (∀ b ∈ bl, b.ops.length ≤ 4) → (opsOf p bl).length ≤ 4 * bl.length
  | [], _ => Nat.le_refl _
  | b :: bl, h => by
    have ih := opsOf_len (p := p) (bl := bl) fun b hb => h b (List.mem_cons_of_mem _ hb)
    have h0 := h b List.mem_cons_self
    unfold opsOf at ih ⊢
    rw [List.length_cons]
    by_cases z : p b = true
    · rw [List.filter_cons_of_pos z, List.flatMap_cons, List.length_append]; omega
    · rw [List.filter_cons_of_neg z]; omega
theorem opsOf_mem {p : BlkR → Bool} {bl : List BlkR} {o : OpI} (h : o ∈ opsOf p bl) : ∃ b ∈ bl, o ∈ b.ops := by
  obtain ⟨b, hb, ho⟩ := List.mem_flatMap.mp h
  exact ⟨b, (List.mem_filter.mp hb).1, ho⟩
theorem FnD.opD {f : FnR} (fd : FnD f) {p : BlkR → Bool} {o : OpI} (h : o ∈ opsOf p f.blocks) : OpD f.L o := by
  obtain ⟨b, hb, ho⟩ := opsOf_mem h
  exact (fd.bl b hb).ops.all o ho
theorem FnD.opsl {f : FnR} (fd : FnD f) (p : BlkR → Bool) : (opsOf p f.blocks).length ≤ 24 := by
  have := opsOf_len (p := p) (bl := f.blocks) fun b hb => (fd.bl b hb).len
  have := fd.len
  omega
theorem fk_w {k : Str} {info want : List PyData} {srt : PyData} (h : Fk k info want srt) (hk : wkind k = true) : isS srt = true := by
  cases h with
  | bin h1 h2 => exact isS_W h2
  | cmp h1 h2 => rfl
  | select h => exact h
  | cast h1 h2 h3 => exact isS_W h3
  | at_ h => rfl
  | _ => exact absurd hk (by decide)
theorem OpD.wn {L : List Nat} {o : OpI} (h : OpD L o) (hk : wkind o.kind = true) : ∃ n : Nat, o.v = .int (n : Int) ∧ ∀ k : Nat, .tuple [.str "v", .int (k : Int)] ∈ o.args → L.idxOf n < L.idxOf k :=
  h.val fun z => by have := fk_w h.fk hk; rw [z] at this; cases this
theorem filterMap_range {α β : Type} (q : α → Bool) (g : α → β) : ∀ (l : List α), (List.range l.length).filterMap (fun i => (l[i]?).bind fun a => if q a = true then some (g a) else none) = (l.filter q).map g
  | [] => rfl
  | a :: l => by
    have ih := filterMap_range q g l
    rw [List.length_cons, List.range_succ_eq_map, List.filterMap_cons, List.filterMap_map]
    have e : ((fun i => ((a :: l)[i]?).bind fun a => if q a = true then some (g a) else none) ∘ Nat.succ) = fun i => (l[i]?).bind fun a => if q a = true then some (g a) else none := rfl
    rw [e, ih]
    by_cases h : q a = true
    · rw [List.filter_cons_of_pos h]; simp [h]
    · rw [List.filter_cons_of_neg h]; simp [h]
theorem map_at {α : Type} {g : α → PyData} {l : List α} {i : Nat} {d : PyData} (h : (l.map g)[i]? = some d) : ∃ a, l[i]? = some a ∧ d = g a := by
  rw [List.getElem?_map] at h
  cases q : l[i]? with
  | none => rw [q] at h; cases h
  | some b => rw [q] at h; cases h; exact ⟨b, rfl, rfl⟩
section
variable {P : Program} {w : World} {K : PySem.W.Frag} {mg : Str → Option Value} {base : Heap}
theorem ok_reached_ops (T : Txt K mg) : DefOk P w K mg base 4 "reached_ops" ["function"] (spP K (fun (f : FnR) ds => ds = [f.d] ∧ FnD f) (fun f d => d = .dict (mD (wdm f.blocks)))) := by
  refine def_P T.F_reached_ops T.g_reached_ops b_reached_ops sc_reached_ops (by rintro n _ ⟨rfl, _⟩; rfl) ?_
  rintro X ⟨cdv, A, outer, s, H0, E, hr, rfl⟩ f S0 H ds σ Q C ⟨rfl, fd⟩ hQ
  have r3 : Room 3 (A.deeper (envOfC "reached_ops" (defScope s_reached_ops) s.heap.objs.size (He.ga K "reached_ops") cdv)) := hr
  have hlen := fd.len
  refine ss_set 1 C (de_call (ok_reached_labels T) r3 (da_consE (de_var 0 rfl) da_nilE) (pre1 f ⟨rfl, fd⟩ fun d h => h)) (fun d σ1 H1 C1 _ ⟨R, e, hR6, hR⟩ => ?_) sc_reached_ops.nd
  subst e
  have hp := reB_eq hR
  refine ss_setLc2 (own := [("block", 3), ("op", 4)]) (vs1 := [4]) (js := [3]) (js1 := [4]) (ds := f.blocks.map BlkR.d) 2 C1 (fun i => (f.blocks[i]?).elim [] fun b => if reB f.blocks b = true then b.ops.map OpI.d else []) (it_data (y := .tuple (f.blocks.map BlkR.d)) (de_ix (da := .tuple [f.name, .tuple f.tys, f.res, .tuple (f.blocks.map BlkR.d)]) (de_var 0 rfl) de_int rfl) rfl) ?_ (by decide) (by decide) (by decide) (fun i d DA hDA hd => ?_) (fun σ2 H2 C2 _ => ?_) rfl sc_reached_ops.nd bk_reached_ops_0 rfl
  · rw [List.length_map, range_flatMap, opsOf_eq, List.length_map]
    have := fd.opsl (reB f.blocks)
    omega
  · obtain ⟨b, hb, rfl⟩ := map_at hd
    refine ⟨[.d f.d, .d (.tuple (nD R)), .u, .d b.d, .u], reB f.blocks b, fun acc s H C cl fp => gd_name 3 sc_reached_ops.nd, fun acc s H C cl fp => ?_, fun h => by rw [hb]; show (if _ then _ else _) = _; rw [if_neg (by rw [h]; simp)], fun h => ⟨b.ops.map OpI.d, by rw [hb]; show _ = (if _ then _ else _ : List PyData).length; rw [if_pos h], fun acc s H C cl fp => it_data (y := .tuple (b.ops.map OpI.d)) (de_ix (da := b.d) (de_var 3 rfl) de_int rfl) rfl, fun j d1 hd1 => ?_⟩⟩
    · exact bes_one ((be_in rfl (de_ix (da := b.d) (d := .int (b.label : Int)) (de_var 3 rfl) de_int rfl) (de_var 1 rfl) rfl (nD_flat R)).imp fun k e => by rw [e, inV_nD, hp])
    · exact ⟨[.d f.d, .d (.tuple (nD R)), .u, .d b.d, .d d1], d1, by rw [hb]; show (if _ then _ else _ : List PyData)[j]? = _; rw [if_pos h]; exact hd1, fun acc s H C cl fp => gd_name 4 sc_reached_ops.nd, fun acc s H C cl fp => de_var 4 rfl⟩
  rw [List.length_map, range_flatMap, opsOf_eq] at C2
  refine ss_retP (S0 := S0) C2 (DE.imp (ND.de (nd_dcX (own := [("op", 4)]) (js := [4]) (ds := (opsOf (reB f.blocks) f.blocks).map OpI.d) (fun i => ((opsOf (reB f.blocks) f.blocks)[i]?).bind fun o => if wkind o.kind = true then some (opK o) else none) (it_data (y := .list ((opsOf (reB f.blocks) f.blocks).map OpI.d)) (de_var 2 rfl) rfl) (by have := fd.opsl (reB f.blocks); rw [List.length_map]; omega) (by decide) (fun i d DA m hDA hd => ?_) rfl sc_reached_ops.nd bk_reached_ops_1)) fun d ⟨m, e, em⟩ => ?_) hQ fun d e => e
  · obtain ⟨o, ho, rfl⟩ := map_at hd
    have od := fd.opD (List.mem_of_getElem? ho)
    refine ⟨[.d f.d, .d (.tuple (nD R)), .d (.list ((opsOf (reB f.blocks) f.blocks).map OpI.d)), .u, .d o.d], wkind o.kind, fun s H C cl fp => gd_name 4 sc_reached_ops.nd, fun s H C cl fp => ?_, fun h => ?_, fun h => ?_⟩
    · exact bes_one (be_in rfl (de_ix (da := o.d) (d := .str o.kind) (de_var 4 rfl) de_int rfl) (de_const (ds := [.str "bin", .str "cmp", .str "select", .str "cast", .str "at"]) T.g_WEIGHED rfl T.c_WEIGHED (fun _ _ => ⟨_, _, rfl, rfl, _, _, rfl, rfl, _, _, rfl, rfl, _, _, rfl, rfl, _, _, rfl, rfl, rfl⟩)) rfl rfl)
    · obtain ⟨n, hn, _⟩ := od.wn h
      refine ⟨Sum.inl (vI o.v), o.d, by rw [ho]; show (if _ then _ else _) = _; rw [if_pos h]; rfl, fun s H C cl fp => ?_, fun s H C cl fp => de_var 4 rfl⟩
      exact (de_ix (da := o.d) (d := o.v) (de_var 4 rfl) de_int rfl).imp fun z e => by rw [e, hn]; rfl
    · rw [ho]; show (if _ then _ else _) = _; rw [if_neg (by rw [h]; simp)]
  · rw [e, em, List.length_map, filterMap_range]
    rfl
end
end K53
/-! text A33 -/
set_option Elab.async false
set_option linter.all false
set_option maxRecDepth 100000
set_option maxHeartbeats 1000000
namespace K53
open PySem PySem.Spec PyProof.Rows L2 Dl
/-! ### heights, in plain Lean -/
abbrev Wms := List (Nat × OpI)
abbrev kys1 (ms : Wms) : List Nat := ms.map (·.1)
def wm (ms : Wms) : List (Key × PyData) := ms.map fun p => ((Sum.inl (p.1 : Int) : Key), p.2.d)
structure WdOk (L : List Nat) (ms : Wms) : Prop where
  nd : (kys1 ms).Nodup
  len : ms.length ≤ 24
  op : ∀ p ∈ ms, OpD L p.2
  wk : ∀ p ∈ ms, wkind p.2.kind = true
  v : ∀ p ∈ ms, p.2.v = .int (p.1 : Int)
def nput (ms : Wms) (n : Nat) (o : OpI) : Wms := if n ∈ kys1 ms then ms.map (fun p => if p.1 = n then (n, o) else p) else ms ++ [(n, o)]
theorem nput_keys (ms : Wms) (n : Nat) (o : OpI) : kys1 (nput ms n o) = if n ∈ kys1 ms then kys1 ms else kys1 ms ++ [n] := by
  unfold nput
  split
  · unfold kys1
    rw [List.map_map]
    refine List.map_congr_left fun p _ => ?_
    show (if p.1 = n then (n, o) else p).1 = p.1
    split
    · rename_i h; exact h.symm
    · rfl
  · simp [kys1]
theorem nput_wm (ms : Wms) (n : Nat) (o : OpI) : wm (nput ms n o) = dpt (wm ms) (Sum.inl (n : Int)) o.d := by
  unfold dpt nput
  by_cases h : n ∈ kys1 ms
  · have hd : ((wm ms).any fun kv => decide (kv.1 = (Sum.inl (n : Int) : Key))) = true := by
      rw [dvl_any]
      obtain ⟨a, _, e⟩ := dvl_key2 (f := OpI.d) h
      show (dvl (wm ms) _).isSome = true
      unfold wm
      rw [e]; rfl
    rw [if_pos h, if_pos hd]
    unfold wm
    rw [List.map_map, List.map_map]
    refine List.map_congr_left fun p _ => ?_
    show ((Sum.inl ((if p.1 = n then (n, o) else p).1 : Int) : Key), (if p.1 = n then (n, o) else p).2.d) = if (Sum.inl (p.1 : Int) : Key) = Sum.inl (n : Int) then ((Sum.inl (p.1 : Int) : Key), o.d) else (Sum.inl (p.1 : Int), p.2.d)
    by_cases z : p.1 = n
    · rw [if_pos z, if_pos (by rw [z]), z]
    · rw [if_neg z, if_neg (fun e => z (by have : (p.1 : Int) = (n : Int) := by injection e
                                           omega))]
  · have hd : ¬ ((wm ms).any fun kv => decide (kv.1 = (Sum.inl (n : Int) : Key))) = true := by
      rw [dvl_any]
      have e := dvl_key (f := OpI.d) h
      unfold wm
      rw [e]
      decide
    rw [if_neg h, if_neg hd]
    unfold wm
    rw [List.map_append]
    rfl
theorem nput_mem {ms : Wms} {n : Nat} {o : OpI} {p : Nat × OpI} (h : p ∈ nput ms n o) : p ∈ ms ∨ p = (n, o) := by
  unfold nput at h
  split at h
  · obtain ⟨q, hq, e⟩ := List.mem_map.mp h
    by_cases z : q.1 = n
    · rw [if_pos z] at e; exact .inr e.symm
    · rw [if_neg z] at e; exact .inl (e ▸ hq)
  · rcases List.mem_append.mp h with h | h
    · exact .inl h
    · exact .inr (List.mem_singleton.mp h)
theorem nput_len (ms : Wms) (n : Nat) (o : OpI) : (nput ms n o).length ≤ ms.length + 1 := by
  unfold nput
  split <;> simp
/-- what dmk makes of weighed ops -/
theorem wdm_fold {L : List Nat} : ∀ (l : List OpI) (ms : Wms), (∀ o ∈ l, OpD L o ∧ wkind o.kind = true) → (kys1 ms).Nodup → (∀ p ∈ ms, OpD L p.2 ∧ wkind p.2.kind = true ∧ p.2.v = .int (p.1 : Int)) →
    ∃ ms', (l.map opK).foldl (fun m p => dpt m p.1 p.2) (wm ms) = wm ms' ∧ (kys1 ms').Nodup ∧ (∀ p ∈ ms', OpD L p.2 ∧ wkind p.2.kind = true ∧ p.2.v = .int (p.1 : Int)) ∧ ms'.length ≤ ms.length + l.length
  | [], ms, _, h1, h2 => ⟨ms, rfl, h1, h2, Nat.le_refl _⟩
  | o :: l, ms, h, h1, h2 => by
    obtain ⟨od, ok⟩ := h o List.mem_cons_self
    obtain ⟨n, hn, _⟩ := od.wn ok
    obtain ⟨ms', e, k1, k2, k3⟩ := wdm_fold l (nput ms n o) (fun o' ho => h o' (List.mem_cons_of_mem _ ho)) (by
      rw [nput_keys]
      split
      · exact h1
      · rename_i hn'
        exact List.nodup_append.mpr ⟨h1, by simp, fun a ha b hb e => hn' (by rw [← List.mem_singleton.mp hb, ← e]; exact ha)⟩) (fun p hp => by
      rcases nput_mem hp with h | h
      · exact h2 p h
      · rw [h]; exact ⟨od, ok, hn⟩)
    refine ⟨ms', ?_, k1, k2, ?_⟩
    · rw [← e, nput_wm, List.map_cons, List.foldl_cons]
      show List.foldl _ (dpt (wm ms) (Sum.inl (vI o.v)) o.d) _ = _
      rw [hn]
      rfl
    · have := nput_len ms n o
      rw [List.length_cons]
      omega
theorem wdm_ex {f : FnR} (fd : FnD f) : ∃ ms, wdm f.blocks = wm ms ∧ WdOk f.L ms := by
  obtain ⟨ms, e, k1, k2, k3⟩ := wdm_fold (L := f.L) (wops (reB f.blocks) f.blocks) [] (fun o ho => by
    obtain ⟨h1, h2⟩ := List.mem_filter.mp ho
    exact ⟨fd.opD h1, h2⟩) (by simp [kys1]) (by simp)
  refine ⟨ms, e, k1, ?_, fun p hp => (k2 p hp).1, fun p hp => (k2 p hp).2.1, fun p hp => (k2 p hp).2.2⟩
  have h1 := fd.opsl (reB f.blocks)
  have h2 : (wops (reB f.blocks) f.blocks).length ≤ (opsOf (reB f.blocks) f.blocks).length := List.length_filter_le _ _
  simp only [List.length_nil] at k3
  omega
noncomputable def wms (f : FnR) : Wms := @dite _ (∃ ms, wdm f.blocks = wm ms ∧ WdOk f.L ms) (Classical.propDecidable _) (fun h => h.choose) fun _ => []
theorem wms_ok {f : FnR} (fd : FnD f) : wdm f.blocks = wm (wms f) ∧ WdOk f.L (wms f) := by
  unfold wms
  rw [dif_pos (wdm_ex fd)]
  exact (wdm_ex fd).choose_spec
/-! the greatest -/
def mx (l : List Nat) : Nat := l.foldl max 0
theorem mx_aux : ∀ (l : List Nat) (a : Nat), a ≤ l.foldl max a ∧ (∀ y ∈ l, y ≤ l.foldl max a) ∧ (l.foldl max a = a ∨ l.foldl max a ∈ l)
  | [], a => ⟨Nat.le_refl _, by simp, .inl rfl⟩
  | x :: l, a => by
    obtain ⟨h1, h2, h3⟩ := mx_aux l (max a x)
    rw [List.foldl_cons]
    refine ⟨by omega, fun y hy => ?_, ?_⟩
    · rcases List.mem_cons.mp hy with e | h
      · rw [e]; omega
      · exact h2 y h
    · rcases h3 with h | h
      · rw [h]
        by_cases z : a ≤ x
        · exact .inr (by rw [Nat.max_eq_right z]; exact List.mem_cons_self)
        · exact .inl (Nat.max_eq_left (by omega))
      · exact .inr (List.mem_cons_of_mem _ h)
theorem mx_le {l : List Nat} {y : Nat} (h : y ∈ l) : y ≤ mx l := (mx_aux l 0).2.1 y h
theorem mx_eq {l : List Nat} {i : Int} (h0 : l = [] → i = 0) (h1 : l ≠ [] → i ∈ l.map fun n : Nat => (n : Int)) (h2 : ∀ y ∈ l, (y : Int) ≤ i) : i = (mx l : Int) := by
  by_cases z : l = []
  · rw [h0 z, z]; rfl
  · obtain ⟨n, hn, e⟩ := List.mem_map.mp (h1 z)
    have := mx_le hn
    rcases (mx_aux l 0).2.2 with h | h
    · have h : mx l = 0 := h
      omega
    · have := h2 _ h
      have h3 : mx l = l.foldl max 0 := rfl
      omega
/-! numbers of args -/
def argN : PyData → Option Nat
  | .tuple [.str x, .int k] => if x = "v" then some k.toNat else none
  | _ => none
def depA (ks : List Nat) (o : OpI) : List Nat := o.args.filterMap fun a => (argN a).bind fun k => if k ∈ ks then some k else none
theorem argN_v (k : Nat) : argN (.tuple [.str "v", .int (k : Int)]) = some k := by
  show (if ("v" : Str) = "v" then some (k : Int).toNat else none) = _
  rw [if_pos rfl]
  rfl
theorem argN_of {a : PyData} {k : Nat} (h : ArgOk a) (e : argN a = some k) : a = .tuple [.str "v", .int (k : Int)] := by
  rcases h with ⟨j, rfl⟩ | ⟨i, rfl⟩ | ⟨x, rfl⟩
  · rw [argN_v] at e; cases e; rfl
  · cases e
  · cases e
theorem dep_mem {L : List Nat} {ks : List Nat} {o : OpI} (od : OpD L o) {k : Nat} (h : k ∈ depA ks o) : k ∈ ks ∧ .tuple [.str "v", .int (k : Int)] ∈ o.args := by
  obtain ⟨a, ha, e⟩ := List.mem_filterMap.mp h
  cases q : argN a with
  | none => rw [q] at e; cases e
  | some j =>
    rw [q] at e
    have e : (if j ∈ ks then some j else none) = some k := e
    by_cases z : j ∈ ks
    · rw [if_pos z] at e
      cases e
      exact ⟨z, by rw [← argN_of (od.arg a ha) q]; exact ha⟩
    · rw [if_neg z] at e; cases e
theorem fk_want3 {k : Str} {info want : List PyData} {srt : PyData} (h : Fk k info want srt) : want.length ≤ 3 := by
  cases h <;> first | (simp; done) | assumption
theorem dep_len (ks : List Nat) {L : List Nat} {o : OpI} (od : OpD L o) : (depA ks o).length ≤ 3 := by
  have h1 : (depA ks o).length ≤ o.args.length := List.length_filterMap_le _ _
  have h2 := od.len
  have h3 := fk_want3 od.fk
  omega
/-! the height -/
def hgtF (ms : Wms) : Nat → Nat → Nat
  | 0, _ => 0
  | t + 1, n => match ms.find? fun p => decide (p.1 = n) with
    | some p => 1 + mx ((depA (kys1 ms) p.2).map (hgtF ms t))
    | none => 0
def hgt (ms : Wms) (n : Nat) : Nat := hgtF ms 51 n
theorem idx_le (L : List Nat) (n : Nat) : L.idxOf n ≤ L.length := by
  by_cases h : n ∈ L
  · have := (idxOf_le' h)
    exact this
  · exact Nat.le_of_eq (idx_out h)
where
  idxOf_le' : ∀ {L : List Nat} {n : Nat}, n ∈ L → L.idxOf n ≤ L.length := fun {L n} h => Nat.le_of_lt (List.idxOf_lt_length_of_mem h)
theorem hgt_stab {L : List Nat} {ms : Wms} (w : WdOk L ms) (hL : L.length = 50) : ∀ (k n t t' : Nat), 50 - L.idxOf n < k → k ≤ t → k ≤ t' → hgtF ms t n = hgtF ms t' n
  | 0, n, t, t', h, _, _ => by omega
  | k + 1, n, 0, t', h, h1, h2 => by omega
  | k + 1, n, t + 1, 0, h, h1, h2 => by omega
  | k + 1, n, t + 1, t' + 1, h, h1, h2 => by
    show (match ms.find? fun p => decide (p.1 = n) with | some p => 1 + mx ((depA (kys1 ms) p.2).map (hgtF ms t)) | none => 0) = (match ms.find? fun p => decide (p.1 = n) with | some p => 1 + mx ((depA (kys1 ms) p.2).map (hgtF ms t')) | none => 0)
    cases q : ms.find? fun p => decide (p.1 = n) with
    | none => rfl
    | some p =>
      have hp := List.mem_of_find?_eq_some q
      have hn : p.1 = n := of_decide_eq_true (List.find?_some (p := fun p : Nat × OpI => decide (p.1 = n)) q)
      obtain ⟨n', e, hlt⟩ := (w.op p hp).wn (w.wk p hp)
      rw [w.v p hp] at e
      have e : (p.1 : Int) = (n' : Int) := by injection e
      have e : n' = n := by omega
      subst e
      show 1 + mx _ = 1 + mx _
      refine congrArg (fun l => 1 + mx l) (List.map_congr_left fun a ha => ?_)
      have h3 := hlt a (dep_mem (w.op p hp) ha).2
      have h4 := idx_le L a
      exact hgt_stab w hL k a t t' (by omega) (by omega) (by omega)
theorem find_of {ms : Wms} (nd : (kys1 ms).Nodup) {p : Nat × OpI} (hp : p ∈ ms) : ms.find? (fun q => decide (q.1 = p.1)) = some p := by
  induction ms with
  | nil => cases hp
  | cons q ms ih =>
    rw [List.find?_cons]
    have nd : (q.1 :: kys1 ms).Nodup := nd
    obtain ⟨n1, n2⟩ := List.nodup_cons.mp nd
    rcases List.mem_cons.mp hp with e | h
    · rw [e]; simp
    · have : ¬ q.1 = p.1 := fun z => n1 (by rw [z]; exact List.mem_map_of_mem (f := (·.1)) h)
      rw [decide_eq_false this]
      exact ih n2 h
theorem hgt_eq {L : List Nat} {ms : Wms} (w : WdOk L ms) (hL : L.length = 50) {p : Nat × OpI} (hp : p ∈ ms) : hgt ms p.1 = 1 + mx ((depA (kys1 ms) p.2).map (hgt ms)) := by
  have e : hgt ms p.1 = hgtF ms 52 p.1 := hgt_stab w hL 51 p.1 51 52 (by omega) (by omega) (by omega)
  rw [e]
  show (match ms.find? fun q => decide (q.1 = p.1) with | some p => 1 + mx ((depA (kys1 ms) p.2).map (hgtF ms 51)) | none => 0) = _
  rw [find_of w.nd hp]
  rfl
/-- the two sums of a weight -/
def opwO (o : OpI) : Int := match o.info, o.args with
  | word :: _, .tuple (tag :: _) :: _ => opw o.kind word tag
  | _, _ => 0
def wRes (ms : Wms) : PyData := .tuple [.int ((ms.map fun p => opwO p.2).sum), .int ((kys1 ms).map fun n => (hgt ms n : Int)).sum]
end K53
/-! text A34 -/
set_option Elab.async false
set_option linter.all false
set_option maxRecDepth 100000
set_option maxHeartbeats 1000000
namespace K53
open PySem PySem.Spec PyProof.Rows L2 Dl
local macro_rules | `(tactic| walk_at "fl") => `(tactic| first | rfl | assumption | (simp only [*]; done) | decide)
/-! ### the program's heights -/
def fm (ms : Wms) (ns : List Nat) : List (Key × PyData) := ns.map fun n : Nat => ((Sum.inl (n : Int) : Key), PyData.int (hgt ms n : Int))
theorem fm_some (ms : Wms) {ns : List Nat} {n : Nat} (h : n ∈ ns) : dvl (fm ms ns) (Sum.inl (n : Int)) = some (.int (hgt ms n : Int)) := by
  induction ns with
  | nil => cases h
  | cons a ns ih =>
    by_cases z : a = n
    · subst z; exact dvl_pos rfl
    · show dvl ((_, _) :: fm ms ns) _ = _
      rw [dvl_neg (fun e => z (by have : (a : Int) = (n : Int) := by injection e
                                  omega))]
      rcases List.mem_cons.mp h with e | h
      · exact absurd e.symm z
      · exact ih h
theorem fm_none (ms : Wms) {ns : List Nat} {n : Nat} (h : n ∉ ns) : dvl (fm ms ns) (Sum.inl (n : Int)) = none := by
  induction ns with
  | nil => rfl
  | cons a ns ih =>
    show dvl ((_, _) :: fm ms ns) _ = _
    rw [dvl_neg (fun e => h (by have : (a : Int) = (n : Int) := by injection e
                                rw [show a = n by omega]; exact List.mem_cons_self))]
    exact ih fun z => h (List.mem_cons_of_mem _ z)
theorem fm_in (ms : Wms) (ns : List Nat) (n : Nat) : (dvl (fm ms ns) (Sum.inl (n : Int))).isSome = decide (n ∈ ns) := by
  by_cases h : n ∈ ns
  · rw [fm_some ms h, decide_eq_true h]; rfl
  · rw [fm_none ms h, decide_eq_false h]; rfl
def nadd (ns : List Nat) (n : Nat) : List Nat := if n ∈ ns then ns else ns ++ [n]
theorem fm_put (ms : Wms) (ns : List Nat) (n : Nat) : dpt (fm ms ns) (Sum.inl (n : Int)) (.int (hgt ms n : Int)) = fm ms (nadd ns n) := by
  unfold nadd
  by_cases h : n ∈ ns
  · rw [if_pos h]
    unfold dpt
    rw [if_pos (by rw [dvl_any, fm_some ms h]; rfl)]
    unfold fm
    rw [List.map_map]
    refine List.map_congr_left fun a _ => ?_
    show (if (Sum.inl (a : Int) : Key) = Sum.inl (n : Int) then _ else _) = _
    by_cases z : (Sum.inl (a : Int) : Key) = Sum.inl (n : Int)
    · have : a = n := by
        have : (a : Int) = (n : Int) := by injection z
        omega
      rw [if_pos z, this]
    · rw [if_neg z]
  · rw [if_neg h, dpt_new _ (fm_none ms h)]
    unfold fm
    rw [List.map_append]
    rfl
theorem wm_get {L : List Nat} {ms : Wms} (w : WdOk L ms) {n : Nat} (h : n ∈ kys1 ms) : ∃ o, (n, o) ∈ ms ∧ dvl (wm ms) (Sum.inl (n : Int)) = some o.d := dvl_key2 (f := OpI.d) h
theorem wm_in (ms : Wms) (n : Nat) : (dvl (wm ms) (Sum.inl (n : Int))).isSome = decide (n ∈ kys1 ms) := by
  by_cases h : n ∈ kys1 ms
  · obtain ⟨o, _, e⟩ := dvl_key2 (f := OpI.d) h
    unfold wm
    rw [e, decide_eq_true h]; rfl
  · have e := dvl_key (f := OpI.d) h
    unfold wm
    rw [e, decide_eq_false h]; rfl
abbrev argR (ks : List Nat) (o : OpI) (i : Nat) (d : Option PyData) : Prop := ∃ a, o.args[i]? = some a ∧ d = ((argN a).bind fun k => if k ∈ ks then some k else none).map fun k : Nat => PyData.int (k : Int)
theorem argR_es {ks : List Nat} {o : OpI} {es : List PyData} (h : LcRel (argR ks o) o.args.length es) : es = nD (depA ks o) := by
  have e := LcRel.fm (ds := o.args) (f := fun a => ((argN a).bind fun k => if k ∈ ks then some k else none).map fun k : Nat => PyData.int (k : Int)) (fun i d o' hd ⟨a, ha, e⟩ => by rw [hd] at ha; cases ha; exact e) (Nat.le_refl _) h
  rw [e, List.take_length]
  unfold depA nD
  rw [List.map_filterMap]
def dfn (ns : List Nat) : PyData → Option PyData
  | .int k => if k.toNat ∈ ns then none else some (.int k)
  | _ => none
theorem dfn_int (ns : List Nat) (a : Nat) : dfn ns (.int (a : Int)) = if a ∈ ns then none else some (.int (a : Int)) := rfl
theorem depR_es {ns deps : List Nat} {es : List PyData} (h : LcRel (fun i d => ∃ a : Nat, deps[i]? = some a ∧ d = if a ∈ ns then none else some (.int (a : Int))) deps.length es) : es = nD (deps.filter fun a => !decide (a ∈ ns)) := by
  have e := LcRel.fm (ds := nD deps) (f := dfn ns) (fun i d o' hd ⟨a, ha, e⟩ => by
    obtain ⟨b, hb, rfl⟩ := nD_at hd
    rw [ha] at hb
    cases hb
    exact e) (by rw [nD_len]; exact Nat.le_refl _) h
  rw [e, List.take_of_length_le (by rw [nD_len]; exact Nat.le_refl _)]
  clear e h
  induction deps with
  | nil => rfl
  | cons a deps ih =>
    have e : nD (a :: deps) = PyData.int (a : Int) :: nD deps := rfl
    by_cases z : a ∈ ns
    · rw [e, List.filterMap_cons_none (by rw [dfn_int, if_pos z]), List.filter_cons_of_neg (by simp [z])]
      exact ih
    · rw [e, List.filterMap_cons_some (by rw [dfn_int, if_neg z]), List.filter_cons_of_pos (by simp [z]), ih]
      rfl
structure HI (L : List Nat) (ms : Wms) (ns wt : List Nat) : Prop where
  nd : ns.Nodup
  sub : ∀ n ∈ ns, n ∈ kys1 ms
  cl : ∀ p ∈ ms, p.1 ∈ ns → ∀ a ∈ depA (kys1 ms) p.2, a ∈ ns
  wsub : ∀ n ∈ wt, n ∈ kys1 ms
  all : ∀ n ∈ kys1 ms, n ∈ ns ∨ n ∈ wt
  pos : ∀ (i n : Nat), wt[i]? = some n → i ≤ 24 + 3 * L.idxOf n
def topm (L : List Nat) (ns wt : List Nat) : Nat := match wt.getLast? with
  | none => 0
  | some v => if v ∈ ns then 500 + wt.length else 100 - L.idxOf v
def meas (L : List Nat) (ms : Wms) (ns wt : List Nat) : Nat := (ms.length - ns.length) * 1000 + topm L ns wt
theorem HI.len {L : List Nat} {ms : Wms} {ns wt : List Nat} (hL : L.length = 50) (h : HI L ms ns wt) : wt.length ≤ 175 := by
  cases q : wt.length with
  | zero => omega
  | succ k =>
    have hk : k < wt.length := by omega
    have := h.pos k _ (List.getElem?_eq_getElem hk)
    have := idx_le L wt[k]
    omega
theorem topm_le {L : List Nat} {ms : Wms} {ns wt : List Nat} (hL : L.length = 50) (h : HI L ms ns wt) : topm L ns wt ≤ 675 := by
  have := h.len hL
  unfold topm
  cases wt.getLast? with
  | none => simp
  | some v =>
    show (if v ∈ ns then 500 + wt.length else 100 - L.idxOf v) ≤ 675
    split <;> omega
theorem HI.nsl {L : List Nat} {ms : Wms} {ns wt : List Nat} (h : HI L ms ns wt) : ns.length ≤ ms.length := by
  have := nodup_sub_le h.nd h.sub
  unfold kys1 at this
  rw [List.length_map] at this
  exact this
theorem HI.init {L : List Nat} {ms : Wms} (w : WdOk L ms) : HI L ms [] (kys1 ms) := by
  refine ⟨List.nodup_nil, by simp, by simp, fun n h => h, fun n h => .inr h, fun i n h => ?_⟩
  have h1 := (List.getElem?_eq_some_iff.mp h).1
  have h2 := w.len
  unfold kys1 at h1
  rw [List.length_map] at h1
  omega
theorem nadd_mem {ns : List Nat} {n a : Nat} : a ∈ nadd ns n ↔ a ∈ ns ∨ a = n := by
  unfold nadd
  split
  · rename_i h
    exact ⟨.inl, fun z => z.elim id fun e => e ▸ h⟩
  · simp
/-- the top is settled -/
theorem HI.pop {L : List Nat} {ms : Wms} {ns l : List Nat} {v : Nat} {o : OpI} (w : WdOk L ms) (h : HI L ms ns (l ++ [v])) (hv : (v, o) ∈ ms) (hd : ∀ a ∈ depA (kys1 ms) o, a ∈ ns) : HI L ms (nadd ns v) l := by
  have hvk : v ∈ kys1 ms := List.mem_map_of_mem (f := (·.1)) hv
  refine ⟨?_, fun n hn => ?_, fun p hp hn a ha => ?_, fun n hn => h.wsub n (List.mem_append_left _ hn), fun n hn => ?_, fun i n hi => ?_⟩
  · unfold nadd
    split
    · exact h.nd
    · rename_i hn
      exact List.nodup_append.mpr ⟨h.nd, by simp, fun a ha b hb e => hn (by rw [← List.mem_singleton.mp hb, ← e]; exact ha)⟩
  · rcases nadd_mem.mp hn with z | z
    · exact h.sub n z
    · rw [z]; exact hvk
  · refine nadd_mem.mpr (.inl ?_)
    rcases nadd_mem.mp hn with z | z
    · exact h.cl p hp z a ha
    · have : p = (v, o) := by
        have h1 := find_of w.nd hp
        have h2 := find_of w.nd hv
        rw [z] at h1
        rw [h1] at h2
        cases h2
        rfl
      rw [this] at ha
      exact hd a ha
  · rcases h.all n hn with z | z
    · exact .inl (nadd_mem.mpr (.inl z))
    · rcases List.mem_append.mp z with z | z
      · exact .inr z
      · exact .inl (nadd_mem.mpr (.inr (List.mem_singleton.mp z)))
  · have hl := (List.getElem?_eq_some_iff.mp hi).1
    exact h.pos i n (by rw [List.getElem?_append_left hl]; exact hi)
theorem HI.push {L : List Nat} {ms : Wms} {ns l op : List Nat} {v : Nat} {o : OpI} (w : WdOk L ms) (h : HI L ms ns (l ++ [v])) (hv : (v, o) ∈ ms) (ho : op = (depA (kys1 ms) o).filter fun a => !decide (a ∈ ns)) : HI L ms ns (l ++ [v] ++ op) := by
  have od := w.op _ hv
  have hmem : ∀ a ∈ op, a ∈ depA (kys1 ms) o := fun a ha => by rw [ho] at ha; exact (List.mem_filter.mp ha).1
  have hlen : op.length ≤ 3 := by
    rw [ho]
    exact Nat.le_trans (List.length_filter_le _ _) (dep_len (kys1 ms) od)
  have hidx : ∀ a ∈ op, L.idxOf v < L.idxOf a := fun a ha => by
    obtain ⟨n, e, hlt⟩ := od.wn (w.wk _ hv)
    have e2 := w.v _ hv
    rw [e2] at e
    have e : (v : Int) = (n : Int) := by injection e
    rw [show v = n by omega]
    exact hlt a (dep_mem od (hmem a ha)).2
  refine ⟨h.nd, h.sub, h.cl, fun n hn => ?_, fun n hn => ?_, fun i n hi => ?_⟩
  · rcases List.mem_append.mp hn with z | z
    · exact h.wsub n z
    · exact (dep_mem od (hmem n z)).1
  · exact (h.all n hn).imp id fun z => List.mem_append_left _ z
  · by_cases hl : i < (l ++ [v]).length
    · exact h.pos i n (by rw [List.getElem?_append_left hl] at hi; exact hi)
    · rw [List.getElem?_append_right (by omega)] at hi
      have h1 := (List.getElem?_eq_some_iff.mp hi).1
      have h2 := hidx n (List.mem_of_getElem? hi)
      have h3 := h.pos l.length v (by simp)
      rw [List.length_append] at h1 hl
      simp only [List.length_cons, List.length_nil] at h1 hl
      omega
theorem meas_pop {L : List Nat} {ms : Wms} {ns l : List Nat} {v : Nat} {o : OpI} (hL : L.length = 50) (w : WdOk L ms) (h : HI L ms ns (l ++ [v])) (h' : HI L ms (nadd ns v) l) : meas L ms (nadd ns v) l < meas L ms ns (l ++ [v]) := by
  have t' := topm_le hL h'
  have nl := h'.nsl
  unfold meas
  by_cases z : v ∈ ns
  · have e : nadd ns v = ns := by unfold nadd; rw [if_pos z]
    rw [e]
    have e2 : topm L ns (l ++ [v]) = 500 + (l.length + 1) := by
      unfold topm
      rw [List.getLast?_concat]
      show (if v ∈ ns then 500 + (l ++ [v]).length else 100 - L.idxOf v) = _
      rw [if_pos z, List.length_append]; rfl
    rw [e2]
    have e3 : topm L ns l ≤ 500 + l.length := by
      unfold topm
      cases l.getLast? with
      | none => simp
      | some u =>
        show (if u ∈ ns then 500 + l.length else 100 - L.idxOf u) ≤ _
        split <;> omega
    omega
  · have e : (nadd ns v).length = ns.length + 1 := by unfold nadd; rw [if_neg z]; simp
    rw [e] at nl ⊢
    omega
theorem meas_push {L : List Nat} {ms : Wms} {ns l op : List Nat} {v : Nat} {o : OpI} (hL : L.length = 50) (w : WdOk L ms) (h : HI L ms ns (l ++ [v])) (hv : (v, o) ∈ ms) (ho : op = (depA (kys1 ms) o).filter fun a => !decide (a ∈ ns)) (hne : op ≠ []) : meas L ms ns (l ++ [v] ++ op) < meas L ms ns (l ++ [v]) := by
  have od := w.op _ hv
  obtain ⟨op', u, rfl⟩ : ∃ op' u, op = op' ++ [u] := by
    rcases List.eq_nil_or_concat op with z | ⟨a, b, z⟩
    · exact absurd z hne
    · exact ⟨a, b, by rw [z, List.concat_eq_append]⟩
  have hu : u ∈ (depA (kys1 ms) o).filter fun a => !decide (a ∈ ns) := by rw [← ho]; simp
  obtain ⟨hu1, hu2⟩ := List.mem_filter.mp hu
  have hun : u ∉ ns := by simpa using hu2
  have hvn : v ∉ ns := fun z => hun (h.cl _ hv z u hu1)
  have hidx : L.idxOf v < L.idxOf u := by
    obtain ⟨n, e, hlt⟩ := od.wn (w.wk _ hv)
    have e2 := w.v _ hv
    rw [e2] at e
    have e : (v : Int) = (n : Int) := by injection e
    rw [show v = n by omega]
    exact hlt u (dep_mem od hu1).2
  have hi := idx_le L u
  unfold meas
  have e1 : topm L ns (l ++ [v]) = 100 - L.idxOf v := by
    unfold topm
    rw [List.getLast?_concat]
    show (if v ∈ ns then _ else 100 - L.idxOf v) = _
    rw [if_neg hvn]
  have e2 : topm L ns (l ++ [v] ++ (op' ++ [u])) = 100 - L.idxOf u := by
    unfold topm
    rw [← List.append_assoc, List.getLast?_concat]
    show (if u ∈ ns then _ else 100 - L.idxOf u) = _
    rw [if_neg hun]
  rw [e1, e2]
  omega
theorem HI.fin {L : List Nat} {ms : Wms} {ns : List Nat} (w : WdOk L ms) (h : HI L ms ns []) : ns.Perm (kys1 ms) := by
  refine (List.perm_ext_iff_of_nodup h.nd w.nd).mpr fun a => ⟨h.sub a, fun z => ?_⟩
  rcases h.all a z with z | z
  · exact z
  · cases z
end K53
/-! text A35 -/
set_option Elab.async false
set_option linter.all false
set_option maxRecDepth 100000
set_option maxHeartbeats 1000000
namespace K53
open PySem PySem.Spec PyProof.Rows L2 Dl
local macro_rules | `(tactic| walk_at "fl") => `(tactic| first | rfl | assumption | (simp only [*]; done) | decide)
section
variable {P : Program} {w : World} {K : PySem.W.Frag} {mg : Str → Option Value} {base : Heap}
abbrev xH (P : Program) (w : World) (K : PySem.W.Frag) (mg : Str → Option Value) (base : Heap) (cdv : Value) (A : Around) (outer : List Env) (s : Shared) (H0 : Hp) (E : XK) : Cx := (cxOf CX0 P w K mg base ["ops", "found", "waiting", "value", "args", "arg", "open_args"] "heights" (defScope s_heights) (He.ga K "heights") cdv A outer s H0 E).nox
abbrev preHt (x : List Nat × Wms) (ds : List PyData) : Prop := ds = [.dict (mD (wm x.2))] ∧ WdOk x.1 x.2 ∧ x.1.length = 50
abbrev postHt (x : List Nat × Wms) (d : PyData) : Prop := ∃ ns : List Nat, ns.Perm (kys1 x.2) ∧ d = .dict (mD (fm x.2 ns))
abbrev sH (ms : Wms) (fp wp : Addr) (a b c d : Sl) : List Sl := [.d (.dict (mD (wm ms))), .v (.ref fp), .v (.ref wp), a, b, c, d]
theorem ok_heights (T : Txt K mg) : DefOk P w K mg base 1 "heights" ["ops"] (spP K preHt postHt) := by
  refine def_P T.F_heights T.g_heights b_heights sc_heights (by rintro n _ ⟨rfl, _⟩; rfl) ?_
  rintro X ⟨cdv, A, outer, s, H0, E, hr, rfl⟩ ⟨L, ms⟩ S0 H ds σ Q C ⟨rfl, wd, hL⟩ hQ
  dsimp only at C wd hL hQ
  show SS (xH P w K mg base cdv A outer s H0 E) (defBody s_heights) { nx := fun _ H' => Q .non H', rt := Q } σ H
  have r0 : Room 0 (xH P w K mg base cdv A outer s H0 E).A := hr
  have hu : (xH P w K mg base cdv A outer s H0 E).A.units + 1 < cLine := by have := r0.units; omega
  have hu2 : (xH P w K mg base cdv A outer s H0 E).A.units + 2 < cLine := by have := r0.units; omega
  refine ss_parDLt 1 2 (X := xH P w K mg base cdv A outer s H0 E) C rfl nd_new (fun q l => ne_listD (m := wm ms) rfl T.n_list (de_var 0 rfl).dr) (fun fp wp da db σ1 H1 hfp hwp C1 e1 e2 => ?_) sc_heights.nd
  subst e1
  have e2 : db = nD (kys1 ms) := by
    rw [e2]
    unfold wm nD kys1
    rw [List.map_map, List.map_map]
    rfl
  subst e2
  have hne : wp ≠ fp := fun e => hwp (by rw [e]; exact List.mem_cons_self)
  have C1 : Dl.Ctx K ⟨[], H, []⟩ (wp :: fp :: S0) [(wp, .lst (nD (kys1 ms))), (fp, .dct (fm ms []))] (sH ms fp wp .u .u .u .u) σ1 H1 := C1
  refine ss_while (X := xH P w K mg base cdv A outer s H0 E) (γ := List Nat × List Nat) (fun g => [(wp, .lst (nD g.2)), (fp, .dct (fm ms g.1))]) (fun _ => sH ms fp wp .u .u .u .u) (fun n g => HI L ms g.1 g.2 ∧ n = meas L ms g.1 g.2) (fun g => !g.2.isEmpty) (meas L ms [] (kys1 ms)) ([], kys1 ms) C1 ⟨HI.init wd, rfl⟩ ?_ ?_ ?_ PassesOwn.never
  · rintro n ⟨ns, wt⟩ _
    refine (be_gt (de_len T.n_len (dr_m 2 rfl List.mem_cons_self) rfl) de_int).imp fun k e => ?_
    rw [e, nD_len]
    cases wt <;> simp
  · rintro n ⟨ns, wt⟩ σ2 H2 ⟨hi, hn⟩ ht C2
    dsimp only at hi hn ht C2
    subst hn
    obtain ⟨l, v, rfl⟩ : ∃ l v, wt = l ++ [v] := by
      rcases List.eq_nil_or_concat wt with z | ⟨a, b, z⟩
      · rw [z] at ht; cases ht
      · exact ⟨a, b, by rw [z, List.concat_eq_append]⟩
    have hvk : v ∈ kys1 ms := hi.wsub v (by simp)
    obtain ⟨o, hvo, hget⟩ := wm_get wd hvk
    have od : OpD L o := wd.op _ hvo
    have hwl := hi.len hL
    have hnl := hi.nsl
    have hml := wd.len
    have hal : o.args.length ≤ 3 := by rw [od.len]; exact fk_want3 od.fk
    refine ss_set 3 (X := xH P w K mg base cdv A outer s H0 E) C2 (de_ixM (d := .int (v : Int)) (k := -1) 2 rfl List.mem_cons_self (de_neg (i := 1) de_int) (by rw [← nD_snoc]; exact atD_last _ _)) (fun d σ3 H3 C3 _ e => ?_) sc_heights.nd
    subst e
    refine ss_setLc 4 (X := xH P w K mg base cdv A outer s H0 E) (own := [("arg", 5)]) (js := [5]) (y := .tuple o.args) (ds := o.args) C3 (de_ix (da := o.d) (de_ixD (m := wm ms) (k := Sum.inl (v : Int)) hu (de_var 0 rfl) (de_var 3 rfl) rfl hget) de_int rfl) rfl (by omega) (by decide) (argR (kys1 ms) o) (fun i a DA acc hDA ha => ?_) (fun es σ4 H4 C4 _ rel => ?_) rfl sc_heights.nd bk_heights_0 rfl
    · rcases od.arg a (List.mem_of_getElem? ha) with ⟨k, rfl⟩ | ⟨j, rfl⟩ | ⟨x, rfl⟩
      · refine ⟨sH ms fp wp (.d (.int (v : Int))) .u (.d (.tuple [.str "v", .int (k : Int)])) .u, fun b => b = decide (k ∈ kys1 ms), fun d => d = .int (k : Int), fun s H C cl fp => gd_name 5 sc_heights.nd, fun s H C cl fp => ?_, fun _ s H C cl fp => de_ix (da := .tuple [.str "v", .int (k : Int)]) (de_var 5 rfl) de_int rfl, fun h => ⟨_, ha, ?_⟩, fun d h e => ⟨_, ha, ?_⟩⟩
        · exact bes_one ((be_andE (m := decide (k ∈ kys1 ms)) (be_eq (de_ix (da := .tuple [.str "v", .int (k : Int)]) (de_var 5 rfl) de_int rfl) de_str rfl) (fun _ => (be_inD (m := wm ms) (k := Sum.inl (k : Int)) (by exact hu) (de_ix (da := .tuple [.str "v", .int (k : Int)]) (de_var 5 rfl) de_int rfl) rfl (de_var 0 rfl).dr).imp fun b e => by rw [e, wm_in])).imp fun b e => by rw [e]; rfl)
        · rw [argN_v]
          show none = (if k ∈ kys1 ms then some k else none).map _
          rw [if_neg (of_decide_eq_false h.symm)]; rfl
        · rw [argN_v, e]
          show _ = (if k ∈ kys1 ms then some k else none).map _
          rw [if_pos (of_decide_eq_true h.symm)]; rfl
      · refine ⟨sH ms fp wp (.d (.int (v : Int))) .u (.d (.tuple [.str "n", .int j])) .u, fun b => b = false, fun d => False, fun s H C cl fp => gd_name 5 sc_heights.nd, fun s H C cl fp => ?_, fun h => (by cases h), fun h => ⟨_, ha, rfl⟩, fun d h => by cases h⟩
        exact bes_one ((be_andE (m := true) (be_eq (de_ix (da := .tuple [.str "n", .int j]) (de_var 5 rfl) de_int rfl) de_str rfl) (fun e => absurd e (by decide))).imp fun b e => by rw [e]; rfl)
      · refine ⟨sH ms fp wp (.d (.int (v : Int))) .u (.d (.tuple [.str "g", .str x])) .u, fun b => b = false, fun d => False, fun s H C cl fp => gd_name 5 sc_heights.nd, fun s H C cl fp => ?_, fun h => (by cases h), fun h => ⟨_, ha, rfl⟩, fun d h => by cases h⟩
        exact bes_one ((be_andE (m := true) (be_eq (de_ix (da := .tuple [.str "g", .str x]) (de_var 5 rfl) de_int rfl) de_str rfl) (fun e => absurd e (by decide))).imp fun b e => by rw [e]; rfl)
    rw [argR_es rel] at C4
    clear rel
    have hdl := dep_len (kys1 ms) od
    refine ss_setLc 6 (X := xH P w K mg base cdv A outer s H0 E) (own := [("arg", 5)]) (js := [5]) (y := .list (nD (depA (kys1 ms) o))) (ds := nD (depA (kys1 ms) o)) C4 (de_var 4 rfl) rfl (by rw [nD_len]; omega) (by decide) (fun i d => ∃ a : Nat, (depA (kys1 ms) o)[i]? = some a ∧ d = if a ∈ ns then none else some (.int (a : Int))) (fun i d DA acc hDA hd => ?_) (fun es σ5 H5 C5 _ rel => ?_) rfl sc_heights.nd bk_heights_1 rfl
    · obtain ⟨a, ha, rfl⟩ := nD_at hd
      refine ⟨sH ms fp wp (.d (.int (v : Int))) (.d (.list (nD (depA (kys1 ms) o)))) (.d (.int (a : Int))) .u, fun b => b = !decide (a ∈ ns), fun d => d = .int (a : Int), fun s H C cl fp => gd_name 5 sc_heights.nd, fun s H C cl fp' => ?_, fun _ s H C cl fp => de_var 5 rfl, fun h => ⟨a, ha, ?_⟩, fun d h e => ⟨a, ha, ?_⟩⟩
      · exact bes_one ((be_notinD (m := fm ms ns) (k := Sum.inl (a : Int)) (by exact hu) (de_var 5 rfl) rfl (dr_md (p := fp) 1 rfl (List.mem_cons_of_mem _ (List.mem_cons_of_mem _ List.mem_cons_self)) (.inl rfl))).imp fun b e => by rw [e, fm_in])
      · rw [if_pos (by simpa using h)]
      · rw [if_neg (by simpa using h), e]
    rw [nD_len] at rel
    rw [depR_es rel] at C5
    clear rel
    generalize hop : (depA (kys1 ms) o).filter (fun a => !decide (a ∈ ns)) = op at C5
    have hopl : op.length ≤ 3 := by
      rw [← hop]
      exact Nat.le_trans (List.length_filter_le _ _) hdl
    refine ss_if (X := xH P w K mg base cdv A outer s H0 E) C5 (be_eq (de_len T.n_len (de_var 6 rfl).dr rfl) de_int rfl) (fun H6 C6 _ e => ?_) (fun H6 C6 _ e => ?_)
    · have hnil : op = [] := by
        have e : true = decide (V.int ((nD op).length : Int) = V.int 0) := e
        simp only [true_eq_decide_iff, V.int.injEq] at e
        rw [nD_len] at e
        exact List.length_eq_zero_iff.mp (by omega)
      have hdep : ∀ a ∈ depA (kys1 ms) o, a ∈ ns := fun a ha => by
        by_cases z : a ∈ ns
        · exact z
        · have : a ∈ op := by rw [← hop]; exact List.mem_filter.mpr ⟨ha, by simp [z]⟩
          rw [hnil] at this
          cases this
      refine ss_dput 1 (X := xH P w K mg base cdv A outer s H0 E) (k := Sum.inl (v : Int)) (m := fm ms ns) (G := [(wp, .lst (nD (l ++ [v])))]) (P := fun z => z = .int (hgt ms v : Int)) hu (C6.perm (fun z hz => by
        simp only [List.mem_cons, List.not_mem_nil, or_false] at hz ⊢
        exact hz.symm)) rfl (by unfold fm; rw [List.length_map]; omega) (fun z hz => by rw [List.mem_singleton.mp hz]; exact hne) ?_ (de_var 3 rfl) (fun d σ7 H7 C7 _ e => ?_)
      · refine (de_add (i := 1) (j := (mx ((depA (kys1 ms) o).map (hgt ms)) : Int)) de_int ((de_maxD (ns := (depA (kys1 ms) o).map fun a => (hgt ms a : Int)) rfl hu2 T.n_max ((NE.de (ne_lcI (own := [("arg", 5)]) (js := [5]) (ds := nD (depA (kys1 ms) o)) (it_data (y := .list (nD (depA (kys1 ms) o))) (de_var 4 rfl) rfl) (by rw [nD_len]; omega) (by decide) (fun i d => ∃ a : Nat, (depA (kys1 ms) o)[i]? = some a ∧ d = some (.int (hgt ms a : Int))) (fun i d DA acc hDA hd => ?_) rfl sc_heights.nd bk_heights_2)).imp fun d ⟨es, e, rel⟩ => ?_) de_int).imp fun d ⟨i, e, h0, h1, h2⟩ => ?_)).imp fun d e => ?_
        · obtain ⟨a, ha, rfl⟩ := nD_at hd
          refine ⟨sH ms fp wp (.d (.int (v : Int))) (.d (.list (nD (depA (kys1 ms) o)))) (.d (.int (a : Int))) (.d (.list (nD op))), fun b => b = true, fun d => d = .int (hgt ms a : Int), fun s H C cl fp => gd_name 5 sc_heights.nd, fun s H C cl fp' => bes_nil, fun _ s H C cl fp' => de_ixDM (m := fm ms ns) (k := Sum.inl (a : Int)) (by exact hu) (p := fp) 1 rfl (List.mem_cons_of_mem _ List.mem_cons_self) (.inl rfl) (de_var 5 rfl) rfl (fm_some ms (hdep a (List.mem_of_getElem? ha))), fun h => (by cases h), fun d h e => ⟨a, ha, by rw [e]⟩⟩
        · rw [e, LcRel.map (l := depA (kys1 ms) o) (g := fun a => PyData.int (hgt ms a : Int)) (fun i o h => h) (nD_len _) rel, List.map_map]
          rfl
        · have hg : hgt ms v = 1 + mx ((depA (kys1 ms) o).map (hgt ms)) := hgt_eq wd hL hvo
          rw [e, hg]
          refine congrArg PyData.int ?_
          omega
        · rw [e]
          refine congrArg PyData.int (mx_eq (fun z => h0 ?_) (fun z => ?_) (fun y hy => ?_))
          · rw [List.map_eq_nil_iff] at z ⊢; exact z
          · rw [List.map_map]
            refine h1 fun q => z ?_
            rw [List.map_eq_nil_iff] at q ⊢; exact q
          · obtain ⟨a, ha, e⟩ := List.mem_map.mp hy
            exact h2 _ (List.mem_map.mpr ⟨a, ha, by rw [← e]⟩)
      subst e
      rw [fm_put, ← nD_snoc] at C7
      refine ss_cons (S1.of (ps_expr pee (by rfl)) (ev_pop 2 (X := xH P w K mg base cdv A outer s H0 E) (ds := nD l) (d := .int (v : Int)) (G := [(fp, .dct (fm ms (nadd ns v)))]) (C7.perm (fun z hz => by
        simp only [List.mem_cons, List.not_mem_nil, or_false] at hz ⊢
        exact hz.symm)) rfl (fun z hz => by rw [List.mem_singleton.mp hz]; exact hne.symm) fun v' H8 C8 _ _ => ss_nil (ss_nil ?_)))
      have hi' := hi.pop wd hvo hdep
      exact ⟨_, (nadd ns v, l), meas_pop (o := o) hL wd hi hi', ⟨hi', rfl⟩, ((C8.u 3).u 4).u 6⟩
    · have hne0 : op ≠ [] := fun z => by
        rw [z] at e
        exact absurd e (by decide)
      refine ss_extend 2 (X := xH P w K mg base cdv A outer s H0 E) (Ps := fun l => l = nD op) C6 rfl (fun z hz => by rw [List.mem_singleton.mp hz]; exact hne.symm) ((de_var 6 rfl).imp fun z e => ⟨_, e, rfl⟩) (fun l' e => by rw [e, nD_len, nD_len]; omega) (fun l' σ7 H7 C7 _ e => ss_nil (ss_nil ?_))
      subst e
      have e3 : nD (l ++ [v]) ++ nD op = nD (l ++ [v] ++ op) := by unfold nD; exact List.map_append.symm
      rw [e3] at C7
      exact ⟨_, (ns, l ++ [v] ++ op), meas_push hL wd hi hvo hop.symm hne0, ⟨hi.push wd hvo hop.symm, rfl⟩, ((C7.u 3).u 4).u 6⟩
  · rintro n ⟨ns, wt⟩ σ2 H2 ⟨hi, hn⟩ ht C2
    dsimp only at hi hn ht C2
    have hw : wt = [] := by
      cases wt with
      | nil => rfl
      | cons a l => cases ht
    subst hw
    have C2 : Dl.Ctx (xH P w K mg base cdv A outer s H0 E).K ⟨[], H, []⟩ (wp :: fp :: S0) [(wp, .lst (nD [])), (fp, .dct (fm ms ns))] (sH ms fp wp .u .u .u .u) σ2 H2 := C2
    have C3 : Dl.Ctx (xH P w K mg base cdv A outer s H0 E).K ⟨[], H, []⟩ (fp :: S0) [(fp, .dct (fm ms ns))] (sH ms fp wp .u .u .u .u) σ2 H2 := C2.drop hwp (fun z hz => by rw [List.mem_singleton.mp hz]; exact List.mem_cons_self) (fun a ha => by cases ha)
    have C4 := C3.solidD 1 hfp (by simp) (fun a ha => by cases ha) rfl
    exact ss_retP (S0 := S0) C4 (de_var 1 rfl) hQ fun d e => ⟨ns, hi.fin wd, e⟩
end
end K53
/-! text A32 -/
set_option Elab.async false
set_option linter.all false
set_option maxRecDepth 100000
set_option maxHeartbeats 1000000
namespace K53
open PySem PySem.Spec PyProof.Rows L2 Dl
local macro_rules | `(tactic| walk_at "fl") => `(tactic| first | rfl | assumption | (simp only [*]; done) | decide)
theorem webL_web {f : FnR} (fd : FnD f) : Web (webL f.blocks).length (webL f.blocks) := by
  refine ⟨rfl, fun l hl => ?_⟩
  obtain ⟨b, hb, rfl⟩ := List.mem_map.mp hl
  have bd := fd.bl b hb
  refine ⟨by rw [List.length_map]; exact bd.fin.two, fun t ht => ?_⟩
  obtain ⟨t', ht', rfl⟩ := List.mem_map.mp ht
  have h1 := (idxOf_ok t' (fd.tg b hb t' ht')).1
  have h2 := (List.getElem?_eq_some_iff.mp h1).1
  rw [List.length_map] at h2
  show placeOf f.blocks t' < (f.blocks.map _).length
  rw [List.length_map]
  exact h2
theorem reach_to {f : FnR} (fd : FnD f) {x : Nat} (h : Reach (webL f.blocks) x) : ∃ b, f.blocks[x]? = some b ∧ ReachL f.blocks b.label := by
  induction h with
  | base =>
    cases q : f.blocks with
    | nil => exact absurd q fd.ne
    | cons b bl => exact ⟨b, rfl, .base rfl⟩
  | @step x t l _ e1 e2 ih =>
    obtain ⟨b, hb, rb⟩ := ih
    have e1 : (f.blocks.map fun b => b.tg.map (placeOf f.blocks))[x]? = some l := e1
    rw [List.getElem?_map, hb] at e1
    cases e1
    obtain ⟨t', ht', rfl⟩ := List.mem_map.mp e2
    have hbm := List.mem_of_getElem? hb
    have h1 := (idxOf_ok t' (fd.tg b hbm t' ht')).1
    rw [List.getElem?_map] at h1
    cases q : f.blocks[(f.blocks.map (·.label)).idxOf t']? with
    | none => rw [q] at h1; cases h1
    | some b' =>
      rw [q] at h1
      cases h1
      exact ⟨b', q, .step rb hbm ht'⟩
theorem place_at {f : FnR} (fd : FnD f) {i : Nat} {b : BlkR} (h : f.blocks[i]? = some b) : placeOf f.blocks b.label = i :=
  idx_at fd.nd (by rw [List.getElem?_map, h]; rfl)
theorem reach_of {f : FnR} (fd : FnD f) {l : Nat} (h : ReachL f.blocks l) : Reach (webL f.blocks) (placeOf f.blocks l) := by
  induction h with
  | base h => rw [place_at fd h]; exact .base
  | @step b t _ hb ht ih =>
    obtain ⟨j, hj⟩ := List.mem_iff_getElem?.mp hb
    rw [place_at fd hj] at ih
    refine .step ih (l := b.tg.map (placeOf f.blocks)) ?_ (List.mem_map_of_mem ht)
    show (f.blocks.map fun b => b.tg.map (placeOf f.blocks))[j]? = _
    rw [List.getElem?_map, hj]
    rfl
theorem near_reB {f : FnR} (fd : FnD f) {o : List Nat} (h1 : ∀ y ∈ o, Reach (webL f.blocks) y) (h2 : ∀ y, Reach (webL f.blocks) y → y ∈ o) {i : Nat} {b : BlkR} (hb : f.blocks[i]? = some b) : decide (i ∈ o) = reB f.blocks b := by
  have e : reB f.blocks b = true ↔ ReachL f.blocks b.label := @decide_eq_true_iff _ (Classical.propDecidable _)
  rw [Bool.eq_iff_iff, e, decide_eq_true_iff]
  constructor
  · intro h
    obtain ⟨b', hb', r⟩ := reach_to fd (h1 i h)
    rw [hb] at hb'
    cases hb'
    exact r
  · intro h
    have := reach_of fd h
    rw [place_at fd hb] at this
    exact h2 i this
/-- the weighed ops up to a block -/
def wupto (p : BlkR → Bool) (bl : List BlkR) (i : Nat) : List OpI := wops p (bl.take i)
theorem wupto_succ (p : BlkR → Bool) {bl : List BlkR} {i : Nat} {b : BlkR} (h : bl[i]? = some b) : wupto p bl (i + 1) = wupto p bl i ++ (if p b = true then b.ops.filter (fun o => wkind o.kind) else []) := by
  unfold wupto wops opsOf
  rw [List.take_add_one, h, List.filter_append, List.flatMap_append, List.filter_append]
  congr 1
  by_cases z : p b = true
  · simp [z]
  · simp [z]
theorem wupto_le (p : BlkR → Bool) {f : FnR} (fd : FnD f) (i : Nat) : (wupto p f.blocks i).length ≤ 24 := by
  have h1 : (wupto p f.blocks i).length ≤ (opsOf p (f.blocks.take i)).length := List.length_filter_le _ _
  have h2 := opsOf_len (p := p) (bl := f.blocks.take i) fun b hb => (fd.bl b (List.mem_of_mem_take hb)).len
  have h3 := fd.len
  rw [List.length_take] at h2
  omega
theorem dmk_snocK (l : List OpI) (o : OpI) : dmk ((l ++ [o]).map opK) = dpt (dmk (l.map opK)) (Sum.inl (vI o.v)) o.d := by
  rw [List.map_append, List.map_cons, List.map_nil, dmk_snoc]
  rfl
section
variable {P : Program} {w : World} {K : PySem.W.Frag} {mg : Str → Option Value} {base : Heap}
abbrev xNW (P : Program) (w : World) (K : PySem.W.Frag) (mg : Str → Option Value) (base : Heap) (cdv : Value) (A : Around) (outer : List Env) (s : Shared) (H0 : Hp) (E : XK) : Cx := (cxOf CX0 P w K mg base ["_law_function_here", "_law_near", "_law_found", "_law_at", "_law_block_here", "_law_op"] "_law_near_weighed" (defScope s_L_near_weighed) (He.ga K "_law_near_weighed") cdv A outer s H0 E).nox
theorem en_at {l : List PyData} {i : Nat} {d : PyData} (h : (enD l)[i]? = some d) : ∃ x, l[i]? = some x ∧ d = .tuple [.int (i : Int), x] := by
  unfold enD at h
  rw [List.getElem?_mapIdx] at h
  cases q : l[i]? with
  | none => rw [q] at h; cases h
  | some x => rw [q] at h; cases h; exact ⟨x, rfl, rfl⟩
def nwT (a : PyData) (b : Sl) (fp : Addr) (d : PyData) : List Sl := match d with
  | .tuple [i, x] => [.d a, b, .v (.ref fp), .d i, .d x, .u]
  | _ => []
theorem ok_near_weighed (T : Txt K mg) : DefOk P w K mg base 3 "_law_near_weighed" ["_law_function_here"] (spP K (fun (f : FnR) ds => ds = [f.d] ∧ FnD f) (fun f d => d = .dict (mD (wdm f.blocks)))) := by
  refine def_P T.F_L_near_weighed T.g_L_near_weighed b_L_near_weighed sc_L_near_weighed (by rintro n _ ⟨rfl, _⟩; rfl) ?_
  rintro X ⟨cdv, A, outer, s, H0, E, hr, rfl⟩ f S0 H ds σ Q C ⟨rfl, fd⟩ hQ
  show SS (xNW P w K mg base cdv A outer s H0 E) (defBody s_L_near_weighed) { nx := fun _ H' => Q .non H', rt := Q } σ H
  have r2 : Room 2 (xNW P w K mg base cdv A outer s H0 E).A := hr
  have r1 : Room 1 (xNW P w K mg base cdv A outer s H0 E).A := Room.mono hr (by decide)
  have hu : (xNW P w K mg base cdv A outer s H0 E).A.units + 1 < cLine := by have := r2.units; omega
  have hlen := fd.len
  have hne : 0 < f.blocks.length := List.length_pos_iff.mpr fd.ne
  have hwl : (webL f.blocks).length = f.blocks.length := List.length_map _
  refine ss_parDD 1 2 (X := xNW P w K mg base cdv A outer s H0 E) (Pa := fun d => ∃ o : List Nat, d = .list (nD o) ∧ o.length ≤ 6 ∧ ∀ (i : Nat) (b : BlkR), f.blocks[i]? = some b → decide (i ∈ o) = reB f.blocks b) C (ps_par rfl sc_L_near_weighed.nd rfl rfl (by decide) rfl rfl (pa_cons pee (pa_cons pee pa_nil)) (by rfl)) (de_call (ok_reached T) r1 (da_consE (de_call (ok_L_web_of T) r2 (da_consE (de_var 0 rfl) da_nilE) (pre1 f ⟨rfl, fd⟩ fun d h => h)) (da_consE (de_neg (i := 1) de_int) da_nilE)) (pre1 (webL f.blocks, (-1 : Int)) ⟨rfl, by dsimp only; omega, by dsimp only; omega, webL_web fd⟩ fun d ⟨o, e, nd, lt, h1, h2⟩ => ⟨o, e, ?_, fun i b hb => near_reB fd h1 (h2 (by dsimp only; omega)) hb⟩)) nd_new (fun da fp m0 σ1 H1 hfp C1 _ ⟨o, e, ho6, ho⟩ em => ?_)
  · have := nodup_le nd lt
    dsimp only at this
    omega
  subst e em
  have C1 : Dl.Ctx K ⟨[], H, []⟩ (fp :: S0) [(fp, .dct [])] [.d f.d, .d (.list (nD o)), .v (.ref fp), .u, .u, .u] σ1 H1 := C1
  refine ss_forP (X := xNW P w K mg base cdv A outer s H0 E) (γ := List (Key × PyData)) (js := [3] ++ ([4] ++ [])) (fun m => [(fp, .dct m)]) (fun _ => [.d f.d, .d (.list (nD o)), .v (.ref fp), .u, .u, .u]) (fun _ i m => m = dmk ((wupto (reB f.blocks) f.blocks i).map opK)) [] (Pds := fun l => l = enD (f.blocks.map BlkR.d)) (δt := fun _ d => nwT f.d (.d (.list (nD o))) fp d) C1
    (IT.p (it_enumT rfl T.n_enumerate (de_ix (da := f.d) (d := .tuple (f.blocks.map BlkR.d)) (de_var 0 rfl) de_int rfl))) (fun _ _ => rfl) (fun W' g d ds i eds hd => ?_) ?_ ?_ rfl PassesOwn.never
  · subst eds
    obtain ⟨x, hx, rfl⟩ := en_at hd
    exact gd_tup (ds := [.int (i : Int), x]) rfl (gds_cons (gd_name 3 sc_L_near_weighed.nd) (gds_cons (gd_name 4 sc_L_near_weighed.nd) gds_nil)) rfl
  · rintro W1 ds i d m σ2 H2 hW1 rfl hd rfl C2
    obtain ⟨x, hx, rfl⟩ := en_at hd
    obtain ⟨b, hb, rfl⟩ := map_at hx
    have bd := fd.bl b (List.mem_of_getElem? hb)
    have hbo := ho i b hb
    have C2 : Dl.Ctx K W1 (fp :: S0) [(fp, .dct (dmk ((wupto (reB f.blocks) f.blocks i).map opK)))] [.d f.d, .d (.list (nD o)), .v (.ref fp), .d (.int (i : Int)), .d b.d, .u] σ2 H2 := C2
    refine ss_forI (X := xNW P w K mg base cdv A outer s H0 E) (γ := List (Key × PyData)) (js := [5]) (fun m => [(fp, .dct m)]) (fun _ => [.d f.d, .d (.list (nD o)), .v (.ref fp), .d (.int (i : Int)), .d b.d, .u]) (fun j m => m = dmk ((wupto (reB f.blocks) f.blocks i ++ (if reB f.blocks b = true then (b.ops.take j).filter (fun o => wkind o.kind) else [])).map opK)) (dmk ((wupto (reB f.blocks) f.blocks i).map opK)) (δt := fun _ d => [.d f.d, .d (.list (nD o)), .v (.ref fp), .d (.int (i : Int)), .d b.d, .d d]) (ds := b.ops.map OpI.d) C2
      (it_data (y := .tuple (b.ops.map OpI.d)) (de_ix (da := b.d) (de_var 4 rfl) de_int rfl) rfl) (by rw [List.take_zero]; simp) (fun W' g d => gd_name 5 sc_L_near_weighed.nd) ?_ ?_ rfl PassesOwn.never
    · rintro W2 j d m σ3 H3 hW2 hd2 rfl C3
      obtain ⟨op, hop, rfl⟩ := map_at hd2
      have opd := bd.ops.all op (List.mem_of_getElem? hop)
      refine ss_if C3 (be_andE (be_in rfl (de_var 3 rfl) (de_var 1 rfl) rfl (nD_flat o)) (fun _ => be_in rfl (de_ix (da := op.d) (d := .str op.kind) (de_var 5 rfl) de_int rfl) de_lit rfl rfl)) (fun H4 C4 _ e4 => ?_) (fun H4 C4 _ e4 => ?_)
      · rw [inV_nD, hbo] at e4
        obtain ⟨e5, e6⟩ := (Bool.and_eq_true _ _).mp e4.symm
        have e6 : wkind op.kind = true := e6
        obtain ⟨n, hn, _⟩ := opd.wn e6
        have hz : (dmk ((wupto (reB f.blocks) f.blocks i ++ (if reB f.blocks b = true then (b.ops.take j).filter (fun o => wkind o.kind) else [])).map opK)).length ≤ 1000 := by
          refine Nat.le_trans (dmk_len _) ?_
          rw [List.length_map, List.length_append, if_pos e5]
          have h1 := wupto_le (reB f.blocks) fd i
          have h2 := List.length_filter_le (fun o => wkind o.kind) (b.ops.take j)
          rw [List.length_take] at h2
          have h3 := bd.len
          omega
        refine ss_dput 2 (X := xNW P w K mg base cdv A outer s H0 E) (k := Sum.inl (n : Int)) (P := fun z => z = op.d) hu C4 rfl hz (by simp) (de_var 5 rfl) ((de_ix (da := op.d) (d := op.v) (de_var 5 rfl) de_int rfl).imp fun z e => by rw [e, hn]; rfl) (fun d σ5 H5 C5 _ e => ?_)
        subst e
        refine ss_nil (ss_nil ⟨_, ?_, C5.u 5⟩)
        dsimp only
        rw [if_pos e5, if_pos e5, List.take_add_one, hop]
        show dpt _ _ _ = dmk (List.map opK (_ ++ List.filter _ (_ ++ [op])))
        rw [List.filter_append, List.filter_cons_of_pos (by exact e6), List.filter_nil, ← List.append_assoc, dmk_snocK, hn]
        rfl
      · refine ss_nil (ss_nil ⟨_, ?_, C4.u 5⟩)
        dsimp only
        rw [inV_nD, hbo] at e4
        have e4 : (reB f.blocks b && wkind op.kind) = false := e4.symm
        by_cases e5 : reB f.blocks b = true
        · rw [e5] at e4
          have e6 : ¬ wkind op.kind = true := by rw [Bool.true_and] at e4; rw [e4]; decide
          rw [if_pos e5, if_pos e5, List.take_add_one, hop]
          show _ = dmk (List.map opK (_ ++ List.filter _ (_ ++ [op])))
          rw [List.filter_append, List.filter_cons_of_neg (by exact e6), List.filter_nil, List.append_nil]
        · rw [if_neg e5, if_neg e5]
    · rintro m σ3 H3 rfl C3
      refine ss_nil ⟨_, ?_, ((C3.u 3).u 4)⟩
      dsimp only
      rw [wupto_succ _ hb, List.length_map, List.take_length]
  · rintro ds m σ2 H2 rfl rfl C2
    have hfin : wupto (reB f.blocks) f.blocks (enD (f.blocks.map BlkR.d)).length = wops (reB f.blocks) f.blocks := by
      unfold wupto enD
      rw [List.length_mapIdx, List.length_map, List.take_length]
    rw [hfin] at C2
    have C3 := C2.solidD 2 hfp (by simp) (fun a ha => (C.ms a ha).1) rfl
    exact ss_retP (S0 := S0) C3 (de_var 2 rfl) hQ fun d e => e
end
end K53
/-! text A36 -/
set_option Elab.async false
set_option linter.all false
set_option maxRecDepth 100000
set_option maxHeartbeats 1000000
namespace K53
open PySem PySem.Spec PyProof.Rows L2 Dl
local macro_rules | `(tactic| walk_at "fl") => `(tactic| first | rfl | assumption | (simp only [*]; done) | decide)
/-! ### weights, in plain Lean -/
theorem perm_sum {α : Type} (f : α → Int) {a b : List α} (h : a.Perm b) : (a.map f).sum = (b.map f).sum := by
  induction h with
  | nil => rfl
  | cons x _ ih => simp only [List.map_cons, List.sum_cons, ih]
  | swap x y l => simp only [List.map_cons, List.sum_cons]; omega
  | trans _ _ h1 h2 => rw [h1, h2]
theorem fk_word {k : Str} {info want : List PyData} {srt : PyData} (h : Fk k info want srt) (hk : wkind k = true) : ∃ word r, info = word :: r ∧ flat word = true ∧ (∀ y, sc word (.str y) = true) ∧ (k = "bin" → isT word = true) ∧ want ≠ [] := by
  have sS : ∀ {d : PyData}, isS d = true → flat d = true ∧ ∀ y, sc d (.str y) = true := fun {d} h => by
    cases d <;> first | exact ⟨rfl, fun y => rfl⟩ | cases h
  have sT : ∀ {d : PyData}, isT d = true → flat d = true ∧ ∀ y, sc d (.str y) = true := fun {d} h => by
    cases d <;> first | exact ⟨rfl, fun y => rfl⟩ | cases h
  cases h with
  | bin h1 h2 => exact ⟨_, _, rfl, (sT h1).1, (sT h1).2, fun _ => h1, by simp⟩
  | cmp h1 h2 => exact ⟨_, _, rfl, (sT h1).1, (sT h1).2, fun _ => h1, by simp⟩
  | select h => exact ⟨_, _, rfl, (sS h).1, (sS h).2, fun e => absurd e (by decide), by simp⟩
  | cast h1 h2 h3 => exact ⟨_, _, rfl, (sT h1).1, (sT h1).2, fun _ => h1, by simp⟩
  | at_ h => exact ⟨_, _, rfl, (sS (isS_W h)).1, (sS (isS_W h)).2, fun e => absurd e (by decide), by simp⟩
  | _ => exact absurd hk (by decide)
theorem wop_of {L : List Nat} {o : OpI} (od : OpD L o) (hk : wkind o.kind = true) : ∃ word tag, WOp (o.kind, word, tag) o.d ∧ (o.kind = "bin" → isT word = true) ∧ opwO o = opw o.kind word tag := by
  obtain ⟨word, r, ei, h1, h2, h3, hw⟩ := fk_word od.fk hk
  cases q : o.args with
  | nil =>
    have := od.len
    rw [q] at this
    exact absurd (List.length_eq_zero_iff.mp this.symm) hw
  | cons a as =>
    have ha := od.arg a (by rw [q]; exact List.mem_cons_self)
    have fin : ∀ (x : Str) (z : PyData), a = .tuple [.str x, z] → ∃ word tag, WOp (o.kind, word, tag) o.d ∧ (o.kind = "bin" → isT word = true) ∧ opwO o = opw o.kind word tag := fun x z e => by
      refine ⟨word, .str x, ⟨o.v, r, z, as, ?_, h1, rfl, fun y => rfl, h2⟩, h3, ?_⟩
      · unfold OpI.d
        rw [ei, q, e]
      · unfold opwO
        rw [ei, q, e]
    rcases ha with ⟨k, e⟩ | ⟨i, e⟩ | ⟨x, e⟩
    · exact fin _ _ e
    · exact fin _ _ e
    · exact fin _ _ e
theorem max_idx (L : List Nat) : ∀ {l : List Nat}, l ≠ [] → ∃ x ∈ l, ∀ y ∈ l, L.idxOf y ≤ L.idxOf x
  | [], h => absurd rfl h
  | [a], _ => ⟨a, List.mem_cons_self, fun y hy => by rw [List.mem_singleton.mp hy]; exact Nat.le_refl _⟩
  | a :: b :: l, _ => by
    obtain ⟨x, hx, hm⟩ := max_idx L (l := b :: l) (by simp)
    by_cases z : L.idxOf a ≤ L.idxOf x
    · refine ⟨x, List.mem_cons_of_mem _ hx, fun y hy => ?_⟩
      rcases List.mem_cons.mp hy with e | h
      · rw [e]; exact z
      · exact hm y h
    · refine ⟨a, List.mem_cons_self, fun y hy => ?_⟩
      rcases List.mem_cons.mp hy with e | h
      · rw [e]; exact Nat.le_refl _
      · have := hm y h
        omega
/-- an op that is not settled, all args of which are -/
theorem next_key {L : List Nat} {ms : Wms} (w : WdOk L ms) {ns : List Nat} (hn : ns.Nodup) (hs : ∀ n ∈ ns, n ∈ kys1 ms) (hl : ns.length < ms.length) : ∃ p ∈ ms, p.1 ∉ ns ∧ ∀ a ∈ depA (kys1 ms) p.2, a ∈ ns := by
  have hne : (kys1 ms).filter (fun a => !decide (a ∈ ns)) ≠ [] := fun z => by
    have h1 : ∀ a ∈ kys1 ms, a ∈ ns := fun a ha => by
      by_cases q : a ∈ ns
      · exact q
      · have : a ∈ (kys1 ms).filter fun a => !decide (a ∈ ns) := List.mem_filter.mpr ⟨ha, by simp [q]⟩
        rw [z] at this
        cases this
    have h2 := nodup_sub_le w.nd h1
    unfold kys1 at h2
    rw [List.length_map] at h2
    omega
  obtain ⟨x, hx, hm⟩ := max_idx L hne
  obtain ⟨hx1, hx2⟩ := List.mem_filter.mp hx
  obtain ⟨p, hp, rfl⟩ := List.mem_map.mp hx1
  refine ⟨p, hp, by simpa using hx2, fun a ha => ?_⟩
  by_cases q : a ∈ ns
  · exact q
  · have h1 := dep_mem (w.op p hp) ha
    have h2 := hm a (List.mem_filter.mpr ⟨h1.1, by simp [q]⟩)
    obtain ⟨n, e, hlt⟩ := (w.op p hp).wn (w.wk p hp)
    rw [w.v p hp] at e
    have e : (p.1 : Int) = (n : Int) := by injection e
    have e : p.1 = n := by omega
    have := hlt a h1.2
    rw [← e] at this
    omega
structure LI (ms : Wms) (ns : List Nat) : Prop where
  nd : ns.Nodup
  sub : ∀ n ∈ ns, n ∈ kys1 ms
theorem LI.add {ms : Wms} {ns : List Nat} (h : LI ms ns) {n : Nat} (hn : n ∈ kys1 ms) : LI ms (nadd ns n) := by
  refine ⟨?_, fun a ha => (nadd_mem.mp ha).elim (h.sub a) fun e => e ▸ hn⟩
  unfold nadd
  split
  · exact h.nd
  · rename_i z
    exact List.nodup_append.mpr ⟨h.nd, by simp, fun a ha b hb e => z (by rw [← List.mem_singleton.mp hb, ← e]; exact ha)⟩
theorem LI.len {ms : Wms} {ns : List Nat} (h : LI ms ns) : ns.length ≤ ms.length := by
  have := nodup_sub_le h.nd h.sub
  unfold kys1 at this
  rw [List.length_map] at this
  exact this
theorem LI.fin {L : List Nat} {ms : Wms} (w : WdOk L ms) {ns : List Nat} (h : LI ms ns) (hl : ms.length ≤ ns.length) : ns.Perm (kys1 ms) := by
  refine (List.perm_ext_iff_of_nodup h.nd w.nd).mpr fun a => ⟨h.sub a, fun z => ?_⟩
  by_cases q : a ∈ ns
  · exact q
  · have h1 := nodup_sub_le (B := ns ++ [a]) (l := kys1 ms) (List.nodup_append.mpr ⟨h.nd, by simp, fun b hb c hc e => q (by rw [← List.mem_singleton.mp hc, ← e]; exact hb)⟩) (fun x hx => (List.mem_append.mp hx).elim (h.sub x) fun e => by rw [List.mem_singleton.mp e]; exact z)
    rw [List.length_append] at h1
    unfold kys1 at h1
    rw [List.length_map] at h1
    simp only [List.length_cons, List.length_nil] at h1
    omega
end K53
/-! text A37 -/
set_option Elab.async false
set_option linter.all false
set_option maxRecDepth 100000
set_option maxHeartbeats 1000000
namespace K53
open PySem PySem.Spec PyProof.Rows L2 Dl
local macro_rules | `(tactic| walk_at "fl") => `(tactic| first | rfl | assumption | (simp only [*]; done) | decide)
section
variable {P : Program} {w : World} {K : PySem.W.Frag} {mg : Str → Option Value} {base : Heap}
abbrev xLW (P : Program) (w : World) (K : PySem.W.Frag) (mg : Str → Option Value) (base : Heap) (cdv : Value) (A : Around) (outer : List Env) (s : Shared) (H0 : Hp) (E : XK) : Cx := (cxOf CX0 P w K mg base ["_law_function_here", "_law_ops", "_law_high", "_law_value", "_law_args", "_law_arg"] "_law_weight" (defScope s_L_weight) (He.ga K "_law_weight") cdv A outer s H0 E).nox
abbrev sLW (f : FnR) (ms : Wms) (a b c d : Sl) : List Sl := [.d f.d, .d (.dict (mD (wm ms))), a, b, c, d]
theorem wm_key {ms : Wms} {i : Nat} {d : PyData} (h : ((wm ms).map fun p => kD p.1)[i]? = some d) : ∃ p, ms[i]? = some p ∧ d = .int (p.1 : Int) := by
  unfold wm at h
  rw [List.map_map] at h
  exact map_at h
theorem fm_key {ms : Wms} {ns : List Nat} {i : Nat} {d : PyData} (h : ((fm ms ns).map fun p => kD p.1)[i]? = some d) : ∃ n, ns[i]? = some n ∧ d = .int (n : Int) := by
  unfold fm at h
  rw [List.map_map] at h
  exact map_at h
theorem wm_dvl {L : List Nat} {ms : Wms} (wd : WdOk L ms) {p : Nat × OpI} (h : p ∈ ms) : dvl (wm ms) (Sum.inl (p.1 : Int)) = some p.2.d := by
  obtain ⟨o', h1, h2⟩ := wm_get wd (List.mem_map_of_mem (f := (·.1)) h)
  have e1 := find_of wd.nd h
  have e2 := find_of wd.nd h1
  have e2 : ms.find? (fun q => decide (q.1 = p.1)) = some (p.1, o') := e2
  rw [e1] at e2
  injection e2 with e3
  rw [e3]
  exact h2
theorem ok_L_weight (T : Txt K mg) : DefOk P w K mg base 4 "_law_weight" ["_law_function_here"] (spP K (fun (f : FnR) ds => ds = [f.d] ∧ FnD f) (fun f d => d = wRes (wms f))) := by
  refine def_P T.F_L_weight T.g_L_weight b_L_weight sc_L_weight (by rintro n _ ⟨rfl, _⟩; rfl) ?_
  rintro X ⟨cdv, A, outer, s, H0, E, hr, rfl⟩ f S0 H ds σ Q C ⟨rfl, fd⟩ hQ
  show SS (xLW P w K mg base cdv A outer s H0 E) (defBody s_L_weight) { nx := fun _ H' => Q .non H', rt := Q } σ H
  have r3 : Room 3 (xLW P w K mg base cdv A outer s H0 E).A := hr
  have r1 : Room 1 (xLW P w K mg base cdv A outer s H0 E).A := r3.mono (by decide)
  have hu : (xLW P w K mg base cdv A outer s H0 E).A.units + 1 < cLine := by have := r3.units; omega
  have hu64 : (xLW P w K mg base cdv A outer s H0 E).A.units + 64 < cLine := by have := r3.units; omega
  obtain ⟨we, wd⟩ := wms_ok fd
  have hL := fd.Ll
  generalize hms : wms f = ms at we wd hQ
  have hml := wd.len
  refine ss_parEDt 1 2 (X := xLW P w K mg base cdv A outer s H0 E) C rfl (de_call (ok_near_weighed T) r3 (da_consE (de_var 0 rfl) da_nilE) (pre1 f ⟨rfl, fd⟩ fun d h => h)) nd_new (fun d0 hp m0 σ1 H1 hhp C1 _ e1 e2 => ?_) sc_L_weight.nd
  subst e2
  rw [we] at e1
  subst e1
  have C1 : Dl.Ctx (xLW P w K mg base cdv A outer s H0 E).K ⟨[], H, []⟩ (hp :: S0) [(hp, .dct (fm ms []))] (sLW f ms (.v (.ref hp)) .u .u .u) σ1 H1 := C1
  refine ss_while (X := xLW P w K mg base cdv A outer s H0 E) (γ := List Nat) (fun ns => [(hp, .dct (fm ms ns))]) (fun _ => sLW f ms (.v (.ref hp)) .u .u .u) (fun n ns => LI ms ns ∧ n = ms.length - ns.length) (fun ns => decide (ns.length < ms.length)) (ms.length - 0) [] C1 ⟨⟨List.nodup_nil, by simp⟩, rfl⟩ ?_ ?_ ?_ PassesOwn.never
  · rintro n ns _
    refine (be_lt (de_lenD (m := fm ms ns) T.n_len (dr_md 2 rfl List.mem_cons_self (.inl rfl))) (de_lenD (m := wm ms) T.n_len (de_var 1 rfl).dr)).imp fun k e => ?_
    rw [e]
    unfold fm wm
    rw [List.length_map, List.length_map]
    by_cases z : ns.length < ms.length
    · rw [decide_eq_true z, decide_eq_true (by omega)]
    · rw [decide_eq_false z, decide_eq_false (by omega)]
  · rintro n ns σ2 H2 ⟨hi, hn⟩ ht C2
    have ht := of_decide_eq_true ht
    subst hn
    obtain ⟨pk, hpk, hpn, hpd⟩ := next_key wd hi.nd hi.sub ht
    obtain ⟨jk, hjk⟩ := List.mem_iff_getElem?.mp hpk
    have hkl : ((wm ms).map fun p => kD p.1) = nD (kys1 ms) := by
      unfold wm nD kys1
      rw [List.map_map, List.map_map]
      rfl
    refine ss_forK (X := xLW P w K mg base cdv A outer s H0 E) (γ := List Nat) (fun ns => [(hp, .dct (fm ms ns))]) (fun _ => sLW f ms (.v (.ref hp)) .u .u .u) (fun j ns' => LI ms ns' ∧ (∀ a ∈ ns, a ∈ ns') ∧ (jk < j → pk.1 ∈ ns')) 1 (m := wm ms) (js := [3]) ns (δt := fun _ d => sLW f ms (.v (.ref hp)) (.d d) .u .u) C2 (itk_keys 1) rfl ⟨hi, fun a h => h, fun h => absurd h (by omega)⟩ (fun W' g d => gd_name 3 sc_L_weight.nd) ?_ ?_ rfl PassesOwn.never
    · rintro W1 D1 j d ns' σ3 H3 hW1 hd ⟨hi', hsub, hk⟩ C3
      rw [hkl] at hd
      obtain ⟨v, hv, rfl⟩ := nD_at hd
      have hvk : v ∈ kys1 ms := List.mem_of_getElem? hv
      obtain ⟨p, hp3, rfl⟩ : ∃ p, ms[j]? = some p ∧ v = p.1 := by
        unfold kys1 at hv
        rw [List.getElem?_map] at hv
        cases q : ms[j]? with
        | none => rw [q] at hv; cases hv
        | some p => rw [q] at hv; cases hv; exact ⟨p, rfl, rfl⟩
      obtain ⟨v, o⟩ := p
      have hvo : (v, o) ∈ ms := List.mem_of_getElem? hp3
      have od : OpD f.L o := wd.op _ hvo
      have hget : dvl (wm ms) (Sum.inl (v : Int)) = some o.d := by
        obtain ⟨o', h1, h2⟩ := wm_get wd hvk
        have e1 := find_of wd.nd hvo
        have e2 := find_of wd.nd h1
        have e1 : ms.find? (fun q => decide (q.1 = v)) = some (v, o) := e1
        have e2 : ms.find? (fun q => decide (q.1 = v)) = some (v, o') := e2
        rw [e1] at e2
        cases e2
        exact h2
      have hal : o.args.length ≤ 3 := by rw [od.len]; exact fk_want3 od.fk
      have hdl := dep_len (kys1 ms) od
      have hnl := hi'.len
      dsimp only at C3
      refine ss_setLc 4 (X := xLW P w K mg base cdv A outer s H0 E) (own := [("_law_arg", 5)]) (js := [5]) (y := .tuple o.args) (ds := o.args) C3 (de_ix (da := o.d) (de_ixD (m := wm ms) (k := Sum.inl (v : Int)) hu (de_var 1 rfl) (de_var 3 rfl) rfl hget) de_int rfl) rfl (by omega) (by decide) (argR (kys1 ms) o) (fun i a DA acc hDA ha => ?_) (fun es σ4 H4 C4 _ rel => ?_) rfl sc_L_weight.nd bk_L_weight_0 rfl
      · rcases od.arg a (List.mem_of_getElem? ha) with ⟨k, rfl⟩ | ⟨j, rfl⟩ | ⟨x, rfl⟩
        · refine ⟨sLW f ms (.v (.ref hp)) (.d (.int (v : Int))) .u (.d (.tuple [.str "v", .int (k : Int)])), fun b => b = decide (k ∈ kys1 ms), fun d => d = .int (k : Int), fun s H C cl fp => gd_name 5 sc_L_weight.nd, fun s H C cl fp => ?_, fun _ s H C cl fp => de_ix (da := .tuple [.str "v", .int (k : Int)]) (de_var 5 rfl) de_int rfl, fun h => ⟨_, ha, ?_⟩, fun d h e => ⟨_, ha, ?_⟩⟩
          · exact bes_one ((be_andE (m := decide (k ∈ kys1 ms)) (be_eq (de_ix (da := .tuple [.str "v", .int (k : Int)]) (de_var 5 rfl) de_int rfl) de_str rfl) (fun _ => (be_inD (m := wm ms) (k := Sum.inl (k : Int)) (by exact hu) (de_ix (da := .tuple [.str "v", .int (k : Int)]) (de_var 5 rfl) de_int rfl) rfl (de_var 1 rfl).dr).imp fun b e => by rw [e, wm_in])).imp fun b e => by rw [e]; rfl)
          · rw [argN_v]
            show none = (if k ∈ kys1 ms then some k else none).map _
            rw [if_neg (of_decide_eq_false h.symm)]; rfl
          · rw [argN_v, e]
            show _ = (if k ∈ kys1 ms then some k else none).map _
            rw [if_pos (of_decide_eq_true h.symm)]; rfl
        · refine ⟨sLW f ms (.v (.ref hp)) (.d (.int (v : Int))) .u (.d (.tuple [.str "n", .int j])), fun b => b = false, fun d => False, fun s H C cl fp => gd_name 5 sc_L_weight.nd, fun s H C cl fp => ?_, fun h => (by cases h), fun h => ⟨_, ha, rfl⟩, fun d h => by cases h⟩
          exact bes_one ((be_andE (m := true) (be_eq (de_ix (da := .tuple [.str "n", .int j]) (de_var 5 rfl) de_int rfl) de_str rfl) (fun e => absurd e (by decide))).imp fun b e => by rw [e]; rfl)
        · refine ⟨sLW f ms (.v (.ref hp)) (.d (.int (v : Int))) .u (.d (.tuple [.str "g", .str x])), fun b => b = false, fun d => False, fun s H C cl fp => gd_name 5 sc_L_weight.nd, fun s H C cl fp => ?_, fun h => (by cases h), fun h => ⟨_, ha, rfl⟩, fun d h => by cases h⟩
          exact bes_one ((be_andE (m := true) (be_eq (de_ix (da := .tuple [.str "g", .str x]) (de_var 5 rfl) de_int rfl) de_str rfl) (fun e => absurd e (by decide))).imp fun b e => by rw [e]; rfl)
      rw [argR_es rel] at C4
      clear rel
      refine ss_if (X := xLW P w K mg base cdv A outer s H0 E) C4 (be_andE (m := ((depA (kys1 ms) o).filter fun a => !decide (a ∈ ns')).isEmpty) (be_notinD (m := fm ms ns') (k := Sum.inl (v : Int)) hu (de_var 3 rfl) rfl (dr_md 2 rfl List.mem_cons_self (.inl rfl))) (fun _ => (be_isL (ds := nD ((depA (kys1 ms) o).filter fun a => !decide (a ∈ ns'))) hu64 ((NE.de (ne_lcI (own := [("_law_arg", 5)]) (js := [5]) (ds := nD (depA (kys1 ms) o)) (it_data (y := .list (nD (depA (kys1 ms) o))) (de_var 4 rfl) rfl) (by rw [nD_len]; omega) (by decide) (fun i d => ∃ a : Nat, (depA (kys1 ms) o)[i]? = some a ∧ d = if a ∈ ns' then none else some (.int (a : Int))) (fun i d DA acc hDA hd => ?turn) rfl sc_L_weight.nd bk_L_weight_1)).imp fun d ⟨es, e, rel⟩ => ?es).dr).imp fun b e => ?emp)) (fun H5 C5 _ e5 => ?yes) (fun H5 C5 _ e5 => ?no)
      case turn =>
        obtain ⟨a, ha, rfl⟩ := nD_at hd
        refine ⟨sLW f ms (.v (.ref hp)) (.d (.int (v : Int))) (.d (.list (nD (depA (kys1 ms) o)))) (.d (.int (a : Int))), fun b => b = !decide (a ∈ ns'), fun d => d = .int (a : Int), fun s H C cl fp => gd_name 5 sc_L_weight.nd, fun s H C cl fp' => ?_, fun _ s H C cl fp => de_var 5 rfl, fun h => ⟨a, ha, ?_⟩, fun d h e => ⟨a, ha, ?_⟩⟩
        · exact bes_one ((be_notinD (m := fm ms ns') (k := Sum.inl (a : Int)) (by exact hu) (de_var 5 rfl) rfl (dr_md (p := hp) 2 rfl (List.mem_cons_of_mem _ List.mem_cons_self) (.inl rfl))).imp fun b e => by rw [e, fm_in])
        · rw [if_pos (by simpa using h)]
        · rw [if_neg (by simpa using h), e]
      case es =>
        rw [nD_len] at rel
        rw [e, depR_es rel]
      case emp =>
        rw [e]
        cases (depA (kys1 ms) o).filter fun a => !decide (a ∈ ns') <;> rfl
      case yes =>
        rw [fm_in] at e5
        obtain ⟨e6, e7⟩ := (Bool.and_eq_true _ _).mp e5.symm
        have hvn : v ∉ ns' := by simpa using e6
        have hdep : ∀ a ∈ depA (kys1 ms) o, a ∈ ns' := fun a ha => by
          by_cases z : a ∈ ns'
          · exact z
          · have : a ∈ (depA (kys1 ms) o).filter fun a => !decide (a ∈ ns') := List.mem_filter.mpr ⟨ha, by simp [z]⟩
            rw [List.isEmpty_iff.mp e7] at this
            cases this
        refine ss_dput 2 (X := xLW P w K mg base cdv A outer s H0 E) (k := Sum.inl (v : Int)) (m := fm ms ns') (P := fun z => z = .int (hgt ms v : Int)) hu C5 rfl (by unfold fm; rw [List.length_map]; omega) (by simp) ?val (de_var 3 rfl) (fun d σ7 H7 C7 _ e => ?nxt)
        case val =>
          refine (de_add (i := 1) (j := (mx ((depA (kys1 ms) o).map (hgt ms)) : Int)) de_int ((de_max (Pn := fun ns => ns = 0 :: (depA (kys1 ms) o).map fun a => (hgt ms a : Int)) rfl T.n_max ((NE.de (ne_cat (Pl := fun l => l = [.int 0]) (Pr := fun r => r = (depA (kys1 ms) o).map fun a => PyData.int (hgt ms a : Int)) (DE.imp (de_lit (d := .list [.int 0])) fun d e => ⟨_, e, rfl⟩) ((NE.de (ne_lcI (own := [("_law_arg", 5)]) (js := [5]) (ds := nD (depA (kys1 ms) o)) (it_data (y := .list (nD (depA (kys1 ms) o))) (de_var 4 rfl) rfl) (by rw [nD_len]; omega) (by decide) (fun i d => ∃ a : Nat, (depA (kys1 ms) o)[i]? = some a ∧ d = some (.int (hgt ms a : Int))) (fun i d DA acc hDA hd => ?turn2) rfl sc_L_weight.nd bk_L_weight_2)).imp fun d ⟨es, e, rel⟩ => ?es2) (fun l r e1 e2 => ?len2))).imp fun d ⟨es, e, l, r, e1, e2, e3⟩ => ?cat2) (fun ns e => by rw [e]; simp)).imp fun d ⟨ns2, i, e, e1, h1, h2⟩ => ?mx2)).imp fun d e => ?fin2
          case turn2 =>
            obtain ⟨a, ha, rfl⟩ := nD_at hd
            refine ⟨sLW f ms (.v (.ref hp)) (.d (.int (v : Int))) (.d (.list (nD (depA (kys1 ms) o)))) (.d (.int (a : Int))), fun b => b = true, fun d => d = .int (hgt ms a : Int), fun s H C cl fp => gd_name 5 sc_L_weight.nd, fun s H C cl fp' => bes_nil, fun _ s H C cl fp' => de_ixDM (m := fm ms ns') (k := Sum.inl (a : Int)) (by exact hu) (p := hp) 2 rfl (List.mem_cons_of_mem _ List.mem_cons_self) (.inl rfl) (de_var 5 rfl) rfl (fm_some ms (hdep a (List.mem_of_getElem? ha))), fun h => (by cases h), fun d h e => ⟨a, ha, by rw [e]⟩⟩
          case es2 =>
            exact ⟨es, e, LcRel.map (l := depA (kys1 ms) o) (g := fun a => PyData.int (hgt ms a : Int)) (fun i o h => h) (nD_len _) rel⟩
          case len2 =>
            rw [e1, e2, List.length_map]
            show 1 + _ ≤ _
            omega
          case cat2 =>
            refine ⟨0 :: (depA (kys1 ms) o).map fun a => (hgt ms a : Int), ?_, rfl⟩
            rw [e, e1, e2, e3, List.map_cons, List.map_map]
            rfl
          case fin2 =>
            have hg : hgt ms v = 1 + mx ((depA (kys1 ms) o).map (hgt ms)) := hgt_eq wd hL hvo
            rw [e, hg]
            refine congrArg PyData.int ?_
            omega
          case mx2 =>
            rw [e]
            subst e1
            have h0 : (0 : Int) ≤ i := h2 0 List.mem_cons_self
            refine congrArg PyData.int (mx_eq (fun z => ?_) (fun z => ?_) (fun y hy => ?_))
            · rw [List.map_eq_nil_iff] at z
              rw [z] at h1
              exact List.mem_singleton.mp h1
            · rw [List.map_map]
              rcases List.mem_cons.mp h1 with q | q
              · cases q3 : depA (kys1 ms) o with
                | nil => rw [q3] at z; exact absurd rfl z
                | cons a l =>
                  have h4 := h2 (hgt ms a : Int) (List.mem_cons_of_mem _ (by rw [q3]; exact List.mem_cons_self))
                  exact List.mem_cons.mpr (.inl (by show i = (hgt ms a : Int); omega))
              · exact q
            · obtain ⟨a, ha, e⟩ := List.mem_map.mp hy
              exact h2 _ (List.mem_cons_of_mem _ (List.mem_map.mpr ⟨a, ha, by rw [← e]⟩))
        case nxt =>
        subst e
        rw [fm_put] at C7
        refine ss_nil (ss_nil ⟨nadd ns' v, ⟨hi'.add hvk, fun a ha => nadd_mem.mpr (.inl (hsub a ha)), fun hlt => ?_⟩, ((C7.u 3).u 4)⟩)
        by_cases z : jk < j
        · exact nadd_mem.mpr (.inl (hk z))
        · have : jk = j := by omega
          subst this
          rw [hp3] at hjk
          cases hjk
          exact nadd_mem.mpr (.inr rfl)
      case no =>
        refine ss_nil (ss_nil ⟨ns', ⟨hi', hsub, fun hlt => ?_⟩, ((C5.u 3).u 4)⟩)
        by_cases z : jk < j
        · exact hk z
        · have : jk = j := by omega
          subst this
          rw [hp3] at hjk
          cases hjk
          by_cases q : v ∈ ns'
          · exact q
          · rw [fm_in, decide_eq_false q] at e5
            have he : ((depA (kys1 ms) o).filter fun a => !decide (a ∈ ns')) = [] := by
              refine List.filter_eq_nil_iff.mpr fun a ha => ?_
              have := hsub a (hpd a ha)
              simp [this]
            rw [he] at e5
            cases e5
    · rintro ns' σ3 H3 ⟨hi', hsub, hk⟩ C3
      have hk := hk (by
        rw [hkl, nD_len]
        unfold kys1
        rw [List.length_map]
        exact (List.getElem?_eq_some_iff.mp hjk).1)
      refine ss_nil ⟨ms.length - ns'.length, ns', ?_, ⟨hi', rfl⟩, C3⟩
      have h1 := nodup_sub_le (B := ns ++ [pk.1]) (l := ns') (List.nodup_append.mpr ⟨hi.nd, by simp, fun b hb c hc e => hpn (by rw [← List.mem_singleton.mp hc, ← e]; exact hb)⟩) (fun x hx => (List.mem_append.mp hx).elim (hsub x) fun e => by rw [List.mem_singleton.mp e]; exact hk)
      rw [List.length_append] at h1
      simp only [List.length_cons, List.length_nil] at h1
      omega
  · rintro n ns σ2 H2 ⟨hi, _⟩ ht C2
    have ht := of_decide_eq_false ht
    have C2 : Dl.Ctx (xLW P w K mg base cdv A outer s H0 E).K ⟨[], H, []⟩ (hp :: S0) [(hp, .dct (fm ms ns))] (sLW f ms (.v (.ref hp)) .u .u .u) σ2 H2 := C2
    have C3 : Dl.Ctx (xLW P w K mg base cdv A outer s H0 E).K ⟨[], H, []⟩ S0 [] (sLW f ms (.d (.dict (mD (fm ms ns)))) .u .u .u) σ2 H2 := C2.solidD 2 hhp (by simp) (fun a ha => by cases ha) rfl
    have hperm := hi.fin wd (by omega)
    have hnl := hi.len
    refine ss_retP (S0 := S0) (P := fun d => d = wRes ms) C3 (DE.imp (de_tupE (da_consE (d := .int ((ms.map fun p => opwO p.2).sum)) ((de_sum (Pn := fun l => l = ms.map fun p => opwO p.2) rfl T.n_sum ((NE.de (ne_lcK (m := wm ms) (own := [("_law_value", 3)]) (js := [3]) 1 (itk_keys 1) rfl (by unfold wm; rw [List.length_map, List.length_map]; omega) (by decide) (fun i d => ∃ p, ms[i]? = some p ∧ d = some (.int (opwO p.2))) (fun W' i d DA acc hW hDA hd => ?turnA) rfl sc_L_weight.nd bk_L_weight_3)).imp fun d ⟨es, e, rel⟩ => ?esA)).imp fun d ⟨l, e, el⟩ => by rw [e, el]) (da_consE (d := .int ((ns.map fun n => (hgt ms n : Int)).sum)) ((de_sum (Pn := fun l => l = ns.map fun n => (hgt ms n : Int)) rfl T.n_sum ((NE.de (ne_lcK (m := fm ms ns) (own := [("_law_value", 3)]) (js := [3]) 2 (itk_keys 2) rfl (by unfold fm; rw [List.length_map, List.length_map]; omega) (by decide) (fun i d => ∃ n, ns[i]? = some n ∧ d = some (.int (hgt ms n : Int))) (fun W' i d DA acc hW hDA hd => ?turnB) rfl sc_L_weight.nd bk_L_weight_4)).imp fun d ⟨es, e, rel⟩ => ?esB)).imp fun d ⟨l, e, el⟩ => by rw [e, el]) da_nilE))) fun d e => ?fin) hQ fun d e => e
    case turnA =>
      obtain ⟨p, hp, rfl⟩ := wm_key hd
      have od := wd.op p (List.mem_of_getElem? hp)
      have hk := wd.wk p (List.mem_of_getElem? hp)
      obtain ⟨word, tag, hw, hb, ho⟩ := wop_of od hk
      refine ⟨sLW f ms (.d (.dict (mD (fm ms ns)))) (.d (.int (p.1 : Int))) .u .u, fun b => b = true, fun d => d = .int (opwO p.2), fun s H C cl fp => gd_name 3 sc_L_weight.nd, fun s H C cl fp' => bes_nil, fun _ s H C cl fp' => ?_, fun h => (by cases h), fun d h e => ⟨p, hp, by rw [e]⟩⟩
      exact de_call (ok_lawOpWeight T) (by exact r1) (da_consE (de_ixD (m := wm ms) (k := Sum.inl (p.1 : Int)) (by exact hu) (de_var 1 rfl) (de_var 3 rfl) rfl (wm_dvl wd (List.mem_of_getElem? hp))) da_nilE) (pre1 (p.2.kind, word, tag) ⟨_, rfl, hw⟩ fun d e => by rw [e, ho])
    case esA =>
      refine ⟨ms.map fun p => opwO p.2, ?_, rfl⟩
      rw [e, LcRel.map (l := ms) (g := fun p => PyData.int (opwO p.2)) (fun i o h => h) (by unfold wm; rw [List.length_map, List.length_map]) rel, List.map_map]
      rfl
    case turnB =>
      obtain ⟨n, hn, rfl⟩ := fm_key hd
      refine ⟨sLW f ms (.d (.dict (mD (fm ms ns)))) (.d (.int (n : Int))) .u .u, fun b => b = true, fun d => d = .int (hgt ms n : Int), fun s H C cl fp => gd_name 3 sc_L_weight.nd, fun s H C cl fp' => bes_nil, fun _ s H C cl fp' => de_ixD (m := fm ms ns) (k := Sum.inl (n : Int)) (by exact hu) (de_var 2 rfl) (de_var 3 rfl) rfl (fm_some ms (List.mem_of_getElem? hn)), fun h => (by cases h), fun d h e => ⟨n, hn, by rw [e]⟩⟩
    case esB =>
      refine ⟨ns.map fun n => (hgt ms n : Int), ?_, rfl⟩
      rw [e, LcRel.map (l := ns) (g := fun n => PyData.int (hgt ms n : Int)) (fun i o h => h) (by unfold fm; rw [List.length_map, List.length_map]) rel, List.map_map]
      rfl
    case fin =>
      rw [e, perm_sum _ hperm]
      rfl
end
end K53
/-! text A38 -/
set_option Elab.async false
set_option linter.all false
set_option maxRecDepth 100000
set_option maxHeartbeats 1000000
namespace K53
open PySem PySem.Spec PyProof.Rows L2 Dl
local macro_rules | `(tactic| walk_at "fl") => `(tactic| first | rfl | assumption | (simp only [*]; done) | decide)
section
variable {P : Program} {w : World} {K : PySem.W.Frag} {mg : Str → Option Value} {base : Heap}
abbrev xWt (P : Program) (w : World) (K : PySem.W.Frag) (mg : Str → Option Value) (base : Heap) (cdv : Value) (A : Around) (outer : List Env) (s : Shared) (H0 : Hp) (E : XK) : Cx := (cxOf CX0 P w K mg base ["function", "ops", "op"] "weight" (defScope s_weight) (He.ga K "weight") cdv A outer s H0 E).nox
theorem b_wtK : KwW "weight" (defArgs s_weight) (defBody s_weight) (defScope s_weight) "function" := fun _ _ _ _ _ _ _ => rfl
theorem wm_val {ms : Wms} {i : Nat} {d : PyData} (h : ((wm ms).map (·.2))[i]? = some d) : ∃ p, ms[i]? = some p ∧ d = p.2.d := by
  unfold wm at h
  rw [List.map_map] at h
  exact map_at h
theorem ok_weight (T : Txt K mg) : DefOk P w K mg base 5 "weight" ["function"] (spP K (fun (f : FnR) ds => ds = [f.d] ∧ FnD f) (fun f d => d = wRes (wms f))) ∧ DefK P w K mg base 5 "weight" "function" (spP K (fun (f : FnR) ds => ds = [f.d] ∧ FnD f) (fun f d => d = wRes (wms f))) := by
  refine def_PK T.F_weight T.g_weight b_weight b_wtK sc_weight (by rintro n _ ⟨rfl, _⟩; rfl) ?_
  rintro X ⟨cdv, A, outer, s, H0, E, hr, rfl⟩ f S0 H ds σ Q C ⟨rfl, fd⟩ hQ
  show SS (xWt P w K mg base cdv A outer s H0 E) (defBody s_weight) { nx := fun _ H' => Q .non H', rt := Q } σ H
  have r4 : Room 4 (xWt P w K mg base cdv A outer s H0 E).A := hr
  have r1 : Room 1 (xWt P w K mg base cdv A outer s H0 E).A := r4.mono (by decide)
  obtain ⟨we, wd⟩ := wms_ok fd
  have hL := fd.Ll
  generalize hms : wms f = ms at we wd hQ
  have hml := wd.len
  refine ss_set 1 (X := xWt P w K mg base cdv A outer s H0 E) C (de_call (ok_reached_ops T) r4 (da_consE (de_var 0 rfl) da_nilE) (pre1 f ⟨rfl, fd⟩ fun d h => h)) (fun d σ1 H1 C1 _ e => ?_) sc_weight.nd
  rw [we] at e
  subst e
  have C1 : Dl.Ctx (xWt P w K mg base cdv A outer s H0 E).K ⟨[], H, []⟩ S0 [] [.d f.d, .d (.dict (mD (wm ms))), .u] σ1 H1 := C1
  refine ss_retP (S0 := S0) (P := fun d => d = wRes ms) C1 (DE.imp (de_tupE (da_consE (d := .int ((ms.map fun p => opwO p.2).sum)) ((de_sum (Pn := fun l => l = ms.map fun p => opwO p.2) rfl T.n_sum ((NE.de (ne_lcK (m := wm ms) (own := [("op", 2)]) (js := [2]) 1 (itk_vals 1) rfl (by unfold wm; rw [List.length_map, List.length_map]; omega) (by decide) (fun i d => ∃ p, ms[i]? = some p ∧ d = some (.int (opwO p.2))) (fun W' i d DA acc hW hDA hd => ?turnA) rfl sc_weight.nd bk_weight_0)).imp fun d ⟨es, e, rel⟩ => ?esA)).imp fun d ⟨l, e, el⟩ => by rw [e, el]) (da_consE (d := .int (((kys1 ms).map fun n => (hgt ms n : Int)).sum)) ((de_sumValsP (Pn := fun l => l.sum = ((kys1 ms).map fun n => (hgt ms n : Int)).sum) rfl T.n_sum (de_call (ok_heights T) r1 (da_consE (de_var 1 rfl) da_nilE) (pre1 (f.L, ms) ⟨rfl, wd, hL⟩ fun d ⟨ns, hp, e⟩ => ?hts))).imp fun d ⟨l, e, el⟩ => by rw [e, el]) da_nilE))) fun d e => e) hQ fun d e => e
  case turnA =>
    obtain ⟨p, hp, rfl⟩ := wm_val hd
    have od := wd.op p (List.mem_of_getElem? hp)
    have hk := wd.wk p (List.mem_of_getElem? hp)
    obtain ⟨word, tag, hw, hb, ho⟩ := wop_of od hk
    refine ⟨[.d f.d, .d (.dict (mD (wm ms))), .d p.2.d], fun b => b = true, fun d => d = .int (opwO p.2), fun s H C cl fp => gd_name 2 sc_weight.nd, fun s H C cl fp' => bes_nil, fun _ s H C cl fp' => ?_, fun h => (by cases h), fun d h e => ⟨p, hp, by rw [e]⟩⟩
    exact de_call (ok_op_weight T).1 (by exact r1) (da_consE (de_var 2 rfl) da_nilE) (pre1 (p.2.kind, word, tag) ⟨_, rfl, hw, hb⟩ fun d e => by rw [e, ho])
  case esA =>
    refine ⟨ms.map fun p => opwO p.2, ?_, rfl⟩
    rw [e, LcRel.map (l := ms) (g := fun p => PyData.int (opwO p.2)) (fun i o h => h) (by unfold wm; rw [List.length_map, List.length_map]) rel, List.map_map]
    rfl
  case hts =>
    refine ⟨fm ms ns, ns.map fun n => (hgt ms n : Int), e, ?_, perm_sum _ hp⟩
    unfold fm
    rw [List.map_map, List.map_map]
    rfl
end
end K53
/-! text A41 -/
set_option Elab.async false
set_option linter.all false
set_option maxRecDepth 100000
set_option maxHeartbeats 1000000
namespace K53
open PySem PySem.Spec PyProof.Rows L2 Dl
local macro_rules | `(tactic| walk_at "fl") => `(tactic| first | rfl | assumption | (simp only [*]; done) | decide)
theorem stp3 {dl cl p : Addr} {H H' : Hp} (h : Stp [dl, cl] H H') : Stp [dl, cl, p] H H' := h.mono fun x hx => by
  simp only [List.mem_cons, List.not_mem_nil, or_false] at hx ⊢
  exact hx.elim .inl fun z => .inr (.inl z)
section
variable {X : Cx} {W : Wd} {S : List Addr} {δ : List Sl} {σ : L2.St} {H H0 : Hp} {Q : VK}
/-- a call of a def that makes a lambda within -/
theorem ev_callT {k : Nat} {x xd : Str} {ps : List Str} {p pd pos : Pos} {dl cl : Addr} (i : Nat) (C : Dl.Ctx X.K ⟨[dl, cl], H0, [dl, cl]⟩ S [] δ σ H) (hd : δ[i]? = some (.v (.ref dl))) (hP : tP X.K ∈ S) (hT : LamX.TabS H (tP X.K) tq) (F : DefOk X.prog X.w X.K X.mg X.base k x ps (spMT X.K)) (hr : Room k X.A)
    (q : ∀ v H' d, Dl.Ctx X.K ⟨[dl, cl], H', [dl, cl]⟩ S [] δ σ H' → Stp [dl, cl, tP X.K] H H' → LamX.TabS H' (tP X.K) tq → ModD d → Rp X.K S H' d v → Q v H')
    (hN : X.N[i]? = some xd := by rfl) (hv : Vis X.env.scope xd := by first | exact Or.inl rfl | exact Or.inr (Or.inl rfl) | exact Or.inr (Or.inr rfl)) (g1 : (xd == ("__debug__" : Str)) = false := by decide) (g2 : (xd == ("__classdict__" : Str)) = false := by decide)
    (hg : Gl X x := by rfl) (hdb : (x == ("__debug__" : Str)) = false := by decide) (he : starEach [.Name xd pd] X.env = (false, eval (.Name xd pd) X.env) :: starEach [] X.env := by exact star_cons rfl) (hpl : (backTo pos (starEach [] X.env)).any (·.1) = false := by exact back_plain rfl) : EE X (.Call (.Name x p) [.Name xd pd] [] pos) σ H Q := by
  obtain ⟨f, fd, h1, h2, h3, h4⟩ := F.ex
  obtain ⟨o, e1, e2⟩ := C.env.get hd
  have e2 : o = some (.ref dl) := e2
  refine EE.of (pe_call (dvs := []) h4 hr hg h1 h2 h3 .nil pass0 (pa_cons (pe_var (i := i) hN hv g1 g2) pa_nil he) hdb he hpl) ⟨.ref dl, by rw [e1, e2], ?_⟩
  have hdS := (C.ms dl (by show dl ∈ [dl, cl]; simp)).1
  have hcS := (C.ms cl (by show cl ∈ [dl, cl]; simp)).1
  show spMT X.K [V.ref dl] H Q E0
  refine ⟨S, dl, cl, rfl, C.trk, hdS, hcS, C.dealM, hP, hT, fun v H' d st hD hT' pd rv => q v H' d ?_ st hT' pd rv⟩
  have mem : ∀ a ∈ [dl, cl, tP X.K], a ∈ S := fun a ha => by
    simp only [List.mem_cons, List.not_mem_nil, or_false] at ha
    rcases ha with rfl | rfl | rfl
    · exact hdS
    · exact hcS
    · exact hP
  have mv : Mv S S H H' := fun a o e n => ⟨st a o e fun z => n (mem a z), n⟩
  refine ⟨C.env.mv mv, .inr ⟨dl, cl, rfl, hD⟩, fun a ha => ⟨(C.ms a ha).1, ha⟩, (fun p hp => by cases hp), fun a ha z => ?_, .refl⟩
  by_cases hm : a ∈ [dl, cl, tP X.K]
  · simp only [List.mem_cons, List.not_mem_nil, or_false] at hm
    rcases hm with rfl | rfl | rfl
    · obtain ⟨xs, e⟩ := deal_lst hD a (by simp)
      rw [z] at e; cases e
    · obtain ⟨xs, e⟩ := deal_lst hD a (by simp)
      rw [z] at e; cases e
    · obtain ⟨ps, e, _⟩ := hT'
      rw [z] at e; cases e
  · cases q2 : H a with
    | none => exact C.trk a ha q2
    | some o => rw [st a o q2 hm] at z; cases z
end
section
variable {P : Program} {w : World} {K : PySem.W.Frag} {mg : Str → Option Value} {base : Heap}
abbrev xSm (P : Program) (w : World) (K : PySem.W.Frag) (mg : Str → Option Value) (base : Heap) (cdv : Value) (A : Around) (outer : List Env) (s : Shared) (H0 : Hp) (E : XK) : Cx := (cxOf CX0 P w K mg base ["_law_deal", "_law_module_here", "_law_function_here"] "_law_spicy_module" (defScope s_L_spicy_module) (He.ga K "_law_spicy_module") cdv A outer s H0 E).nox
theorem ok_spicy_module (T : Txt K mg) (TB : LamX.TabB base mg (tc K) (tP K)) : DefOk P w K mg base 9 "_law_spicy_module" ["_law_deal"] (spMT K) := by
  obtain ⟨fd, F⟩ := T.F_L_spicy_module
  refine ⟨_, fd, T.g_L_spicy_module, F.kp, F.bindsN b_L_spicy_module, F.ok sc_L_spicy_module (fun vs H Q E q => ?_) fun cdv A outer s H vs Q E hr q => ?_⟩
  · obtain ⟨S, dl, cl, rfl, _⟩ := q
    rfl
  obtain ⟨S, dl, cl, rfl, t, hdS, hcS, hD0, hPS, hT0, hQ⟩ := q
  refine ⟨_, PSs.nox psse, ?_⟩
  show SS (xSm P w K mg base cdv A outer s H E) (defBody s_L_spicy_module) { nx := fun _ H' => Q .non H', rt := Q } ([some (.ref dl)] ++ List.replicate 2 none) H
  have r8 : Room 8 (xSm P w K mg base cdv A outer s H E).A := hr
  have r5 : Room 5 (xSm P w K mg base cdv A outer s H E).A := r8.mono (by decide)
  have C0 : Dl.Ctx (xSm P w K mg base cdv A outer s H E).K ⟨[dl, cl], H, [dl, cl]⟩ S [] [.v (.ref dl), .u, .u] ([some (.ref dl)] ++ List.replicate 2 none) H := by
    refine ⟨⟨_, _, rfl, rfl, start_env (ds := []) (vs := []) 2 rfl⟩, .inr ⟨dl, cl, rfl, hD0⟩, fun a ha => ⟨?_, ha⟩, (fun p hp => by cases hp), t, .refl⟩
    have ha : a ∈ [dl, cl] := ha
    simp only [List.mem_cons, List.not_mem_nil, or_false] at ha
    rcases ha with rfl | rfl
    · exact hdS
    · exact hcS
  refine ss_setV 1 (X := xSm P w K mg base cdv A outer s H E) (ev_callT (X := xSm P w K mg base cdv A outer s H E) 0 C0 rfl hPS hT0 (ok_module T TB) r8 fun v H1 d C1 st1 hT1 ⟨tt, fs, ed, hfs, hfl⟩ rv => ?_) sc_L_spicy_module.nd
  subst ed
  have C2 : Dl.Ctx (xSm P w K mg base cdv A outer s H E).K ⟨[dl, cl], H1, [dl, cl]⟩ S [] [.v (.ref dl), .d (.tuple [tt, .tuple (fs.map FnR.d)]), .u] _ H1 := C1.set 1 (o := some v) (s := .d (.tuple [tt, .tuple (fs.map FnR.d)])) ⟨v, rfl, rv⟩
  have hD1 := C2.dealM
  refine ss_ret (v' := Q) C2 (P := ModD) (DE.imp (de_tupG (g := fun fs' : List FnR => [tt, .tuple (fs'.map FnR.d)]) (Pi := fun fs' => (∀ f ∈ fs', FnD f) ∧ fs'.length ≤ 3) (da_consG (de_ix (da := .tuple [tt, .tuple (fs.map FnR.d)]) (de_var 1 rfl) de_int rfl) (g := fun fs' : List FnR => [.tuple (fs'.map FnR.d)]) (da_lastG (h0 := fun fs' : List FnR => .tuple (fs'.map FnR.d)) ((de_tupleOf (Ps := fun es => ∃ fs' : List FnR, ((∀ f ∈ fs', FnD f) ∧ fs'.length ≤ 3) ∧ es = fs'.map FnR.d) T.n_tuple ((NE.de (ne_lcI (own := [("_law_function_here", 2)]) (js := [2]) (ds := fs.map FnR.d) (it_data (y := .tuple (fs.map FnR.d)) (de_ix (da := .tuple [tt, .tuple (fs.map FnR.d)]) (de_var 1 rfl) de_int rfl) rfl) (by rw [List.length_map]; omega) (by decide) (fun i o => ∃ f : FnR, o = some f.d ∧ FnD f) (fun i d DA acc hDA hd => ?turn) rfl sc_L_spicy_module.nd bk_L_spicy_module_0)).imp fun d ⟨es, e, rel⟩ => ?es)).imp fun d ⟨es, e, fs', p, ee⟩ => ⟨fs', p, by rw [e, ee]⟩)))) fun d ⟨fs', ⟨p1, p2⟩, e⟩ => ⟨tt, fs', e, p1, p2⟩) fun v H2 d C3 _ pd rv2 => ?_
  case turn =>
    obtain ⟨f, hf, rfl⟩ := map_at hd
    refine ⟨[.v (.ref dl), .d (.tuple [tt, .tuple (fs.map FnR.d)]), .d f.d], fun k => k = true, fun d => ∃ f : FnR, d = f.d ∧ FnD f, fun s H C cl fp => gd_name 2 sc_L_spicy_module.nd, fun s H C cl fp => bes_nil, fun _ s3 H3 Cb cl3 fp3 => ?_, (fun z => by cases z), fun d' _ ⟨f, e, fd⟩ => ⟨f, by rw [e], fd⟩⟩
    exact de_callM 0 rfl rfl (ok_spiced T) (by exact r5) (da_consE (de_var 2 rfl) da_nilE) (pre1 f ⟨rfl, hfs f (List.mem_of_getElem? hf)⟩ fun d h => h)
  case es =>
    have al := rel.all (fun i ⟨_, z, _⟩ => by cases z)
    obtain ⟨fs', e2, hf2⟩ := fns_of (es := es) fun d hd => by
      obtain ⟨i, hi⟩ := List.mem_iff_getElem?.mp hd
      obtain ⟨f, e, fd⟩ := al.2 i d hi
      cases e
      exact ⟨f, rfl, fd⟩
    refine ⟨es, by rw [e]; rfl, fs', ⟨hf2, ?_⟩, e2⟩
    have h1 := al.1
    rw [e2, List.length_map, List.length_map] at h1
    omega
  · exact hQ v H2 d (st1.trans (stp3 C3.fr)) C3.dealM (tabS_stp hT1 C3.fr (deal_lst hD1)) pd rv2
end
end K53
/-! text A42 -/
set_option Elab.async false
set_option linter.all false
set_option maxRecDepth 100000
set_option maxHeartbeats 1000000
namespace K53
open PySem PySem.Spec PyProof.Rows L2 Dl
local macro_rules | `(tactic| walk_at "fl") => `(tactic| first | rfl | assumption | (simp only [*]; done) | decide)
section
variable {X : Cx} {W : Wd} {S : List Addr} {G : List (Addr × MO)} {δ : List Sl} {e : Expr} {pos : Pos}
theorem de_absI {p : Pos} {q : Int → Prop} (hm : X.mg "abs" = none) (ha : DE X W S G δ e (IsI q)) (hg : Gl X "abs" := by rfl) (na : starEach [e] X.env = (false, eval e X.env) :: starEach [] X.env := by exact star_cons rfl) : DE X W S G δ (.Call (.Name "abs" p) [e] [] pos) (IsI fun _ => True) := fun σ H C Q k =>
  EE.of (pe_callB call_abs hg hm PyProof.Rows.boot_abs (pa_cons pee pa_nil na) (he := na)) (ha σ H C _ fun v H1 d C1 s1 ⟨i, e1, h1⟩ rv => by
    subst e1
    have rv : v = .int i := rv
    exact ⟨i, by rw [rv], k _ H1 (.int _) C1 s1 ⟨_, rfl, True.intro⟩ rfl⟩)
theorem ints_vs {K : PySem.W.Frag} {S : List Addr} {H : Hp} : ∀ {es : List PyData} {xs : List V}, (∀ d ∈ es, ∃ i : Int, d = .int i) → Rps K S H es xs → ∃ ns : List Int, xs = ns.map V.int
  | [], xs, _, r => ⟨[], r⟩
  | d :: es, xs, h, r => by
    obtain ⟨v, vs, rfl, r1, r2⟩ := r
    obtain ⟨i, rfl⟩ := h d List.mem_cons_self
    obtain ⟨ns, rfl⟩ := ints_vs (es := es) (fun d hd => h d (List.mem_cons_of_mem _ hd)) r2
    have r1 : v = .int i := r1
    exact ⟨i :: ns, by rw [r1]; rfl⟩
theorem lcr_mem {R : Nat → Option PyData → Prop} {Pd : PyData → Prop} (h : ∀ i d, R i (some d) → Pd d) : ∀ {n : Nat} {es : List PyData}, LcRel R n es → ∀ d ∈ es, Pd d
  | 0, es, r, d, hd => by
    have r : es = [] := r
    rw [r] at hd
    cases hd
  | n + 1, es, r, d, hd => by
    rcases r with ⟨_, r⟩ | ⟨es', e, rfl, r1, r2⟩
    · exact lcr_mem h r d hd
    · rcases List.mem_append.mp hd with z | z
      · exact lcr_mem h r2 d z
      · rw [List.mem_singleton.mp z]
        exact h _ _ r1
theorem cut48 (ns : List Int) : ∃ ns' : List Int, cutV (ns.map V.int) none (some 48) = ns'.map V.int ∧ ns'.length ≤ 48 := by
  unfold cutV
  rw [← List.map_drop, ← List.map_take]
  refine ⟨_, rfl, ?_⟩
  rw [List.length_take]
  have h := HT.sIx_nat (ns.map V.int).length (ns.map V.int).length 48
  have h : HT.sIx (ns.map V.int).length (ns.map V.int).length (some 48) = _ := h
  rw [h]
  omega
end
def spDr (K : PySem.W.Frag) : Sp := fun vs H Q _ => ∃ (S : List Addr) (a : Addr) (ns : List Int) (salt : Int), vs = [.ref a, .int salt] ∧ Trk S H ∧ SqL K H a (ns.map V.int) ∧ 0 ≤ salt ∧ salt ≤ 1000 ∧ ∀ H' dl cl, Stp [] H H' → H dl = none → H cl = none → Deal H' dl cl → Q (.ref dl) H'
section
variable {P : Program} {w : World} {K : PySem.W.Frag} {mg : Str → Option Value} {base : Heap}
abbrev xDr (P : Program) (w : World) (K : PySem.W.Frag) (mg : Str → Option Value) (base : Heap) (cdv : Value) (A : Around) (outer : List Env) (s : Shared) (H0 : Hp) (E : XK) : Cx := (cxOf CX0 P w K mg base ["_law_script", "_law_salt", "_law_cells", "_law_cell", "_law_blend"] "_law_draw" (defScope s_L_draw) (He.ga K "_law_draw") cdv A outer s H0 E).nox
theorem ok_draw (T : Txt K mg) : DefOk P w K mg base 1 "_law_draw" ["_law_script", "_law_salt"] (spDr K) := by
  obtain ⟨fd, F⟩ := T.F_L_draw
  refine ⟨_, fd, T.g_L_draw, F.kp, F.bindsN b_L_draw, F.ok sc_L_draw (fun vs H Q E q => ?_) fun cdv A outer s H vs Q E hr q => ?_⟩
  · obtain ⟨S, a, ns, salt, rfl, _⟩ := q
    rfl
  obtain ⟨S, a, ns, salt, rfl, t, hs, hs0, hs1, hQ⟩ := q
  refine ⟨_, PSs.nox psse, ?_⟩
  show SS (xDr P w K mg base cdv A outer s H E) (defBody s_L_draw) { nx := fun _ H' => Q .non H', rt := Q } ([some (.ref a), some (.int salt)] ++ List.replicate 3 none) H
  have C0 : Dl.Ctx (xDr P w K mg base cdv A outer s H E).K ⟨[], H, []⟩ S [] [.v (.ref a), .d (.int salt), .u, .u, .u] ([some (.ref a), some (.int salt)] ++ List.replicate 3 none) H :=
    ⟨⟨_, _, rfl, rfl, _, _, rfl, ⟨_, rfl, rfl⟩, start_env (ds := []) (vs := []) 3 rfl⟩, .inl rfl, (fun a ha => by cases ha), (fun p hp => by cases hp), t, .refl⟩
  obtain ⟨ns', hcut, hn48⟩ := cut48 ns
  refine ss_setLcV 2 (X := xDr P w K mg base cdv A outer s H E) (own := [("_law_cell", 3)]) (js := [3]) (S := S) (G := []) (δ := [.v (.ref a), .d (.int salt), .u, .u, .u]) (by decide) (fun i o => ∃ n : Int, o = some (.int n)) (fun Rf hRf => ?_) rfl sc_L_draw.nd bk_L_draw_0 rfl
  refine IEx.of (pi_list pee) (EE.of (pe_slice sl_list (pe_var (i := 0) rfl (by first | exact .inl rfl | exact .inr (.inl rfl) | exact .inr (.inr rfl))) po_none (po_some pe_int)) ⟨.ref a, rfl, 48, rfl, a, ns.map V.int, rfl, hs, fun p hp => ⟨p, rfl, ⟨_, .inl (.inl upd_same)⟩, ?_⟩⟩)
  rw [hcut]
  have st1 : Stp [] H (upd H p (.lst (ns'.map V.int))) := Stp.new hp
  have C1 := C0.ext st1
  refine hRf _ _ (ns'.map .int) ⟨[], H, []⟩ (by rw [List.length_map]; omega) (dw_list ⟨C0.trk.out hp, upd_same⟩ (Rps.of_ints ns')) C1 (fun i d DA acc hDA hd => ?turn) (fun es σ2 H2 C2 rel => ?nxt)
  case turn =>
    obtain ⟨n, hn, rfl⟩ : ∃ n : Int, ns'[i]? = some n ∧ d = .int n := by
      rw [List.getElem?_map] at hd
      cases q : ns'[i]? with
      | none => rw [q] at hd; cases hd
      | some n => rw [q] at hd; cases hd; exact ⟨n, rfl, rfl⟩
    exact ⟨[.v (.ref a), .d (.int salt), .u, .d (.int n), .u], fun k => k = true, IsI fun _ => True, fun s H C cl fp => gd_name 3 sc_L_draw.nd, fun s H C cl fp => bes_nil, fun _ s3 H3 Cb cl3 fp3 => de_absI T.n_abs (de_intOf T.n_int (de_I (de_var 3 rfl))), (fun z => by cases z), fun d' _ ⟨i, e, _⟩ => ⟨i, by rw [e]⟩⟩
  case nxt =>
  have al := rel.all (fun i ⟨_, z⟩ => by cases z)
  rw [List.length_map] at al
  have hint : ∀ d ∈ es, ∃ i : Int, d = .int i := fun d hd => by
    obtain ⟨i, hi⟩ := List.mem_iff_getElem?.mp hd
    obtain ⟨n, e⟩ := al.2 i d hi
    cases e
    exact ⟨n, rfl⟩
  have hel : es.length ≤ 48 := by omega
  have C2 : Dl.Ctx (xDr P w K mg base cdv A outer s H E).K ⟨[], H, []⟩ S [] [.v (.ref a), .d (.int salt), .d (.list es), .u, .u] σ2 H2 := C2
  refine ss_set 4 (X := xDr P w K mg base cdv A outer s H E) C2 (de_add (i := 7919) (j := 104729 * salt) de_int (de_mul (i := 104729) (j := salt) de_int (de_var 1 rfl) (.inl (by decide)))) (fun d σ3 H3 C3 _ e => ?_) sc_L_draw.nd
  subst e
  refine ss_forI (X := xDr P w K mg base cdv A outer s H E) (γ := Int) (js := [3]) (fun _ => []) (fun b => [.v (.ref a), .d (.int salt), .d (.list es), .u, .d (.int b)]) (fun _ b => 0 ≤ b ∧ b < 2147483647) (7919 + 104729 * salt) (δt := fun b d => [.v (.ref a), .d (.int salt), .d (.list es), .d d, .d (.int b)]) (ds := es) C3
    (it_data (y := .list es) (de_var 2 rfl) rfl) ⟨by omega, by omega⟩ (fun W' g d => gd_name 3 sc_L_draw.nd) ?_ ?_ rfl PassesOwn.never
  · rintro W1 i d b σ4 H4 hW1 hd ⟨hb0, hb1⟩ C4
    obtain ⟨n, rfl⟩ := hint d (List.mem_of_getElem? hd)
    refine ss_set 4 (X := xDr P w K mg base cdv A outer s H E) C4 (P := IsI fun b => 0 ≤ b ∧ b < 2147483647) (de_opN (fun b => 0 ≤ b ∧ b < 2147483647) op_modN (de_intOf T.n_int (de_opN0 (fun _ => True) op_add (de_opN0 (fun _ => True) op_add (de_opN (fun _ => True) op_mul (de_I (de_var 4 rfl)) (de_I de_int) fun i j h1 h2 => ⟨.inr (by rw [h2]; decide), True.intro⟩) (de_opN (fun _ => True) op_modN (de_I (de_var 3 rfl)) (de_I de_int) fun i j h1 h2 => ⟨by rw [h2]; decide, True.intro⟩) fun _ _ _ _ => True.intro) (de_I de_int) fun _ _ _ _ => True.intro)) (de_I de_int) fun i j h1 h2 => ⟨by rw [h2]; decide, by rw [h2]; exact Int.fmod_nonneg_of_pos _ (by decide), by rw [h2]; exact Int.fmod_lt_of_pos _ (by decide)⟩) (fun d σ5 H5 C5 _ ⟨b', e, hb'⟩ => ?_) sc_L_draw.nd
    subst e
    exact ss_nil ⟨b', hb', C5.u 3⟩
  · rintro b σ4 H4 ⟨hb0, hb1⟩ C4
    refine ss_cons (S1.of (ps_ret pee) (EE.of (pe_lst pea) (ea_cons (EE.of (pe_revL pee) ((ne_lcI (X := xDr P w K mg base cdv A outer s H E) (own := [("_law_cell", 3)]) (js := [3]) (ds := es) (it_data (y := .list es) (de_var 2 rfl) rfl) (by omega) (by decide) (fun i o => ∀ d, o = some d → ∃ n : Int, d = .int n) (fun i d DA acc hDA hd => ?turn2) rfl sc_L_draw.nd bk_L_draw_1) σ4 H4 C4 _ fun p5 H5 ds5 xs5 C5 st5 hp5 hl5 rel5 rs5 => ?res)) rfl)))
    case turn2 =>
      obtain ⟨n, rfl⟩ := hint d (List.mem_of_getElem? hd)
      exact ⟨[.v (.ref a), .d (.int salt), .d (.list es), .d (.int n), .d (.int b)], fun _ => True, fun d => d = .int n, fun s H C cl fp => gd_name 3 sc_L_draw.nd, fun s H C cl fp => bes_one ((be_ge (de_var 3 rfl) (de_pow de_int de_int ⟨by decide, by decide, by decide⟩)).imp fun _ _ => True.intro), fun _ s3 H3 Cb cl3 fp3 => de_var 3 rfl, (fun _ d z => by cases z), fun d' _ e d2 e2 => ⟨n, by rw [← Option.some.inj e2]; exact e⟩⟩
    case res =>
      obtain ⟨ms, rfl⟩ := ints_vs (lcr_mem (Pd := fun d => ∃ i : Int, d = .int i) (fun i d h => h d rfl) rel5) rs5
      have hml : ms.length ≤ 48 := by
        have h1 := rel5.len
        have h2 := rs5.len
        rw [List.length_map] at h2
        omega
      refine ⟨p5, ms.map V.int, rfl, .inl (.inl hl5), fun p6 hp6 => ?_⟩
      have st6 : Stp [] H5 (upd H5 p6 (.lst (ms.map V.int).reverse)) := Stp.new hp6
      have C6 := C5.ext st6
      refine ea_cons ((de_var 4 rfl) σ4 _ C6 _ fun v H7 d C7 st7 e rv => ea_nil ⟨Nat.le_of_lt (small1000 (by show 2 ≤ 1000; decide)), fun p7 hp7 => ?_⟩) rfl
      subst e
      have rv : v = .int b := rv
      subst rv
      have h6 : H7 p6 = some (.lst (ms.map V.int).reverse) := st7 _ _ upd_same (by simp)
      have n67 : p6 ≠ p7 := fun z => by rw [z, hp7] at h6; cases h6
      have sH : Stp [] H H7 := C7.fr
      have new : ∀ q, H7 q = none → H q = none := fun q z => by
        cases q2 : H q with
        | none => rfl
        | some o => rw [sH q o q2 (by simp)] at z; cases z
      have hp6H : H p6 = none := by
        cases q2 : H p6 with
        | none => rfl
        | some o => rw [C5.fr p6 o q2 (by simp)] at hp6; cases hp6
      refine hQ _ p7 p6 (sH.trans (Stp.new hp7)) (new p7 hp7) hp6H ⟨fun z => n67 z.symm, ms.reverse, b, upd_same, ?_, by rw [List.length_reverse]; exact hml, hb0, hb1⟩
      rw [upd_ne n67, h6, List.map_reverse]
end
end K53
/-! text A43 -/
set_option Elab.async false
set_option linter.all false
set_option maxRecDepth 100000
set_option maxHeartbeats 1000000
namespace K53
open PySem PySem.Spec PyProof.Rows L2 Dl
local macro_rules | `(tactic| walk_at "fl") => `(tactic| first | rfl | assumption | (simp only [*]; done) | decide)
/-! ### bounds -/
theorem opw_bd (kind : Str) (word tag : PyData) : 0 ≤ opw kind word tag ∧ opw kind word tag ≤ 10 := by
  unfold opw
  constructor <;> (repeat' split) <;> decide
theorem opwO_bd (o : OpI) : 0 ≤ opwO o ∧ opwO o ≤ 10 := by
  unfold opwO
  split
  · exact opw_bd _ _ _
  · exact ⟨by decide, by decide⟩
theorem hgtF_bd (ms : Wms) : ∀ (t n : Nat), hgtF ms t n ≤ t
  | 0, n => Nat.le_refl _
  | t + 1, n => by
    show (match ms.find? fun p => decide (p.1 = n) with | some p => 1 + mx ((depA (kys1 ms) p.2).map (hgtF ms t)) | none => 0) ≤ t + 1
    cases ms.find? fun p => decide (p.1 = n) with
    | none => exact Nat.zero_le _
    | some p =>
      show 1 + mx _ ≤ t + 1
      have h : mx ((depA (kys1 ms) p.2).map (hgtF ms t)) ≤ t := by
        rcases (mx_aux ((depA (kys1 ms) p.2).map (hgtF ms t)) 0).2.2 with h | h
        · have h : mx ((depA (kys1 ms) p.2).map (hgtF ms t)) = 0 := h
          omega
        · obtain ⟨a, _, e⟩ := List.mem_map.mp h
          have e : hgtF ms t a = mx ((depA (kys1 ms) p.2).map (hgtF ms t)) := e
          rw [← e]
          exact hgtF_bd ms t a
      omega
theorem sum_bd {α : Type} (f : α → Int) (b : Int) (h : ∀ a, 0 ≤ f a ∧ f a ≤ b) (hb : 0 ≤ b) : ∀ l : List α, 0 ≤ (l.map f).sum ∧ (l.map f).sum ≤ b * l.length
  | [] => ⟨Int.le_refl _, by simp⟩
  | a :: l => by
    obtain ⟨h1, h2⟩ := sum_bd f b h hb l
    obtain ⟨h3, h4⟩ := h a
    rw [List.map_cons, List.sum_cons, List.length_cons]
    refine ⟨by omega, ?_⟩
    have e : b * ((l.length + 1 : Nat) : Int) = b * (l.length : Int) + b := by
      rw [Int.natCast_add, Int.mul_add]; simp
    rw [e]
    omega
theorem two_shown {a b : Int} (ha : 0 ≤ a) (ha2 : a < 10 ^ 4) (hb : 0 ≤ b) (hb2 : b < 10 ^ 4) : (PyData.tuple [.int a, .int b]).shown.length ≤ sizeLine := by
  have e : (PyData.tuple [.int a, .int b]).shown = tupleText [Str.ofString (toString a), Str.ofString (toString b)] := by
    simp only [PyData.shown, PyData.shownAll]
  rw [e]
  have h1 := join_length_add [Str.ofString (toString a), Str.ofString (toString b)] (by simp)
  have h2 := toString_length_le ha (by decide) ha2
  have h3 := toString_length_le hb (by decide) hb2
  have h4 : (tupleText [Str.ofString (toString a), Str.ofString (toString b)]).length = 1 + (Str.join ", " [Str.ofString (toString a), Str.ofString (toString b)]).length + 1 := by
    unfold tupleText
    rw [Str.length_append, Str.length_append]
    rfl
  have h5 : piled [Str.ofString (toString a), Str.ofString (toString b)] = (Str.ofString (toString a)).length + 2 + ((Str.ofString (toString b)).length + 2) := by simp [piled]
  rw [h4]
  have h6 : sizeLine = 16777216 := sizeLine_eq
  omega
theorem small_log {i : Int} (h0 : 0 ≤ i) (h1 : i < 10 ^ 4) : i.natAbs.log2 < 1920 := by
  have h2 : i.natAbs.log2 ≤ i.natAbs := Nat.log2_le_self _
  by_cases h : i.natAbs < 1920
  · omega
  · have h3 : i.natAbs < 2 ^ 1920 := Nat.lt_of_lt_of_le (show i.natAbs < 10 ^ 4 by omega) (by
      refine Nat.le_trans (show 10 ^ 4 ≤ 2 ^ 14 by decide) (Nat.pow_le_pow_right (by decide) (by decide)))
    exact (Nat.log2_lt (by omega)).mpr h3
end K53
/-! text A44 -/
set_option Elab.async false
set_option linter.all false
set_option maxRecDepth 100000
set_option maxHeartbeats 1000000
namespace K53
open PySem PySem.Spec PyProof.Rows L2 Dl
local macro_rules | `(tactic| walk_at "fl") => `(tactic| first | rfl | assumption | (simp only [*]; done) | decide)
theorem wRes_repr {L : List Nat} {ms : Wms} (w : WdOk L ms) : (wRes ms).canLay0 = true ∧ (wRes ms).showable = true ∧ (wRes ms).depth = 1 ∧ (wRes ms).shown.length ≤ sizeLine := by
  obtain ⟨a1, a2⟩ := sum_bd (fun p : Nat × OpI => opwO p.2) 10 (fun p => opwO_bd p.2) (by decide) ms
  obtain ⟨b1, b2⟩ := sum_bd (fun n : Nat => (hgt ms n : Int)) 51 (fun n => ⟨by omega, by have := hgtF_bd ms 51 n; show ((hgtF ms 51 n : Nat) : Int) ≤ 51; omega⟩) (by decide) (kys1 ms)
  have hl := w.len
  have hk : (kys1 ms).length = ms.length := List.length_map _
  rw [hk] at b2
  have a3 : (ms.map fun p => opwO p.2).sum < 10 ^ 4 := by omega
  have b3 : ((kys1 ms).map fun n => (hgt ms n : Int)).sum < 10 ^ 4 := by omega
  refine ⟨rfl, ?_, rfl, two_shown a1 a3 b1 b3⟩
  unfold wRes
  simp only [PyData.showable, PyData.showableAll, Bool.and_true, Bool.and_eq_true, decide_eq_true_eq]
  exact ⟨small_log a1 a3, small_log b1 b3⟩
section
variable {P : Program} {w : World} {K : PySem.W.Frag} {mg : Str → Option Value} {base : Heap}
abbrev xLa (P : Program) (w : World) (K : PySem.W.Frag) (mg : Str → Option Value) (base : Heap) (cdv : Value) (A : Around) (outer : List Env) (s : Shared) (H0 : Hp) (E : XK) : Cx := (cxOf CX0 P w K mg base ["_law_script", "_law_deal", "_law_turn", "_law_module_here", "_law_function_here", "_law_ops", "_law_value", "_law_due"] "law" (defScope s_law) (He.ga K "law") cdv A outer s H0 E).nox
abbrev sLa (a dl : Addr) (t m f o v d : Sl) : List Sl := [.v (.ref a), .v (.ref dl), t, m, f, o, v, d]
/-- one function of a module: no False -/
def lawB0 : List Stmt := forBody ((defBody s_law).getD 1 (.Pass ⟨0, 0, 0, 0⟩))
def lawB1 : List Stmt := forBody (lawB0.getD 1 (.Pass ⟨0, 0, 0, 0⟩))
theorem law_fn (T : Txt K mg) {cdv A outer s H0 E} {D : Ends} {W : Wd} {S : List Addr} {a dl : Addr} {t m : Sl} {f : FnR} {σ : L2.St} {H : Hp} (hr : Room 5 (xLa P w K mg base cdv A outer s H0 E).A) (hg0 : (xLa P w K mg base cdv A outer s H0 E).A.guards = some []) (fd : FnD f)
    (C : Dl.Ctx (xLa P w K mg base cdv A outer s H0 E).K W S [] (sLa a dl t m (.d f.d) .u .u .u) σ H)
    (k : ∀ σ' H', Dl.Ctx (xLa P w K mg base cdv A outer s H0 E).K W S [] (sLa a dl t m .u .u .u .u) σ' H' → D.nx σ' H') : SS (xLa P w K mg base cdv A outer s H0 E) lawB1 D σ H := by
  have r3 : Room 3 (xLa P w K mg base cdv A outer s H0 E).A := hr.mono (by decide)
  have r1 : Room 1 (xLa P w K mg base cdv A outer s H0 E).A := hr.mono (by decide)
  have r4 : Room 4 (xLa P w K mg base cdv A outer s H0 E).A := hr.mono (by decide)
  have hu : (xLa P w K mg base cdv A outer s H0 E).A.units + 1 < cLine := by have := hr.units; omega
  have hu2 : (xLa P w K mg base cdv A outer s H0 E).A.units + 2 < cLine := by have := hr.units; omega
  obtain ⟨we, wd⟩ := wms_ok fd
  have hwr := wRes_repr wd
  generalize hms : wms f = ms at we wd hwr
  refine ss_set 5 (X := xLa P w K mg base cdv A outer s H0 E) C (P := fun d => d = .dict (mD (wm ms))) (de_call (ok_near_weighed T) r3 (da_consE (de_var 4 rfl) da_nilE) (pre1 f ⟨rfl, fd⟩ fun d h => by rw [h, we])) (fun d σ1 H1 C1 _ e => ?_) sc_law.nd
  subst e
  have C1 : Dl.Ctx (xLa P w K mg base cdv A outer s H0 E).K W S [] (sLa a dl t m (.d f.d) (.d (.dict (mD (wm ms)))) .u .u) σ1 H1 := C1
  refine ss_forK (X := xLa P w K mg base cdv A outer s H0 E) (γ := Unit) (fun _ => []) (fun _ => sLa a dl t m (.d f.d) (.d (.dict (mD (wm ms)))) .u .u) (fun _ _ => True) 5 (m := wm ms) (js := [6]) () (δt := fun _ d => sLa a dl t m (.d f.d) (.d (.dict (mD (wm ms)))) (.d d) .u) C1 (itk_keys 5) rfl True.intro (fun W' g d => gd_name 6 sc_law.nd) ?_ ?_ rfl PassesOwn.never
  · rintro W1 D1 j d _ σ2 H2 hW1 hd _ C2
    obtain ⟨p, hp, rfl⟩ := wm_key hd
    have hpm := List.mem_of_getElem? hp
    have od := wd.op p hpm
    have hk := wd.wk p hpm
    obtain ⟨word, tag, hw, hb, ho⟩ := wop_of od hk
    have hg := wm_dvl wd hpm
    obtain ⟨o1, o2⟩ := opwO_bd p.2
    have hlog : (opwO p.2).natAbs.log2 < 1920 := small_log o1 (by omega)
    dsimp only at C2
    have ix : ∀ {pos p1 p2 : Pos} {W' δ'}, δ'[5]? = some (Sl.d (.dict (mD (wm ms)))) → δ'[6]? = some (Sl.d (.int (p.1 : Int))) → DE (xLa P w K mg base cdv A outer s H0 E) W' S [] δ' (.Subscript (.Name "_law_ops" p1) (.Name "_law_value" p2) pos) (fun z => z = p.2.d) := fun {pos p1 p2 W' δ'} h1 h2 => de_ixD (m := wm ms) (k := Sum.inl (p.1 : Int)) hu (de_var 5 h1) (de_var 6 h2) rfl hg
    refine ss_set 7 (X := xLa P w K mg base cdv A outer s H0 E) C2 (de_reprI (i := opwO p.2) T.n_repr (de_call (ok_lawOpWeight T) r1 (da_consE (ix rfl rfl) da_nilE) (pre1 (p.2.kind, word, tag) ⟨_, rfl, hw⟩ fun d e => by rw [e, ho])) hlog) (fun d σ3 H3 C3 _ e => ?_) sc_law.nd
    subst e
    refine ss_if (X := xLa P w K mg base cdv A outer s H0 E) C3 (be_orE (be_ne (x := .str (toString (opwO p.2))) (y := .str (toString (opwO p.2))) (de_reprI (i := opwO p.2) T.n_repr (de_call (ok_op_weight T).1 r1 (da_consE (ix rfl rfl) da_nilE) (pre1 (p.2.kind, word, tag) ⟨_, rfl, hw, hb⟩ fun d e => by rw [e, ho])) hlog) (de_var 7 rfl) rfl) (fun _ => be_ne (x := .str (toString (opwO p.2))) (y := .str (toString (opwO p.2))) (de_reprI (i := opwO p.2) T.n_repr (de_callKw (ok_op_weight T).2 r1 (ix rfl rfl) (fun d e => ⟨(p.2.kind, word, tag), ⟨d, rfl, by rw [e]; exact hw, hb⟩, fun z ez => by rw [ez, ho]⟩)) hlog) (de_var 7 rfl) rfl)) (fun H4 C4 _ e => ?_) (fun H4 C4 _ e => ?_)
    · simp at e
    · exact ss_nil (ss_nil ⟨(), True.intro, ((C4.u 6).u 7)⟩)
  · rintro _ σ2 H2 _ C2
    dsimp only at C2
    obtain ⟨c1, c2, c3, c4⟩ := hwr
    have hc : ∀ d : PyData, d = wRes ms → (∃ ds, d = .tuple ds) ∨ ∃ ds, d = .list ds := fun d e => .inl ⟨_, e⟩
    have hud : (xLa P w K mg base cdv A outer s H0 E).A.units + ((wRes ms).depth + 1) < cLine := by rw [c3]; exact hu2
    refine ss_set 7 (X := xLa P w K mg base cdv A outer s H0 E) C2 (de_repr (d := wRes ms) hg0 T.n_repr (de_call (ok_L_weight T) r4 (da_consE (de_var 4 rfl) da_nilE) (pre1 f ⟨rfl, fd⟩ fun d h => by rw [h, hms])) c1 c2 hud c4 (hc _ rfl)) (fun d σ3 H3 C3 _ e => ?_) sc_law.nd
    subst e
    refine ss_if (X := xLa P w K mg base cdv A outer s H0 E) C3 (be_orE (be_ne (x := .str (wRes ms).shown) (y := .str (wRes ms).shown) (de_repr (d := wRes ms) hg0 T.n_repr (de_call (ok_weight T).1 hr (da_consE (de_var 4 rfl) da_nilE) (pre1 f ⟨rfl, fd⟩ fun d h => by rw [h, hms])) c1 c2 hud c4 (hc _ rfl)) (de_var 7 rfl) rfl) (fun _ => be_ne (x := .str (wRes ms).shown) (y := .str (wRes ms).shown) (de_repr (d := wRes ms) hg0 T.n_repr (de_callKw (ok_weight T).2 hr (de_var 4 rfl) (fun d e => ⟨f, ⟨by rw [e], fd⟩, fun z ez => by rw [ez, hms]⟩)) c1 c2 hud c4 (hc _ rfl)) (de_var 7 rfl) rfl)) (fun H4 C4 _ e => ?_) (fun H4 C4 _ e => ?_)
    · simp at e
    · exact ss_nil (ss_nil (k _ _ (((C4.u 4).u 5).u 7)))
end
end K53
/-! text A45 -/
set_option Elab.async false
set_option linter.all false
set_option maxRecDepth 100000
set_option maxHeartbeats 1000000
namespace K53
open PySem PySem.Spec PyProof.Rows L2 Dl
local macro_rules | `(tactic| walk_at "fl") => `(tactic| first | rfl | assumption | (simp only [*]; done) | decide)
section
variable {P : Program} {w : World} {K : PySem.W.Frag} {mg : Str → Option Value} {base : Heap}
theorem law_body (T : Txt K mg) (TB : LamX.TabB base mg (tc K) (tP K)) {cdv A outer s H0 E} {Q : VK} {a : Addr} {ns : List Int} {H : Hp} (hr : Room 9 (xLa P w K mg base cdv A outer s H0 E).A) (hg0 : (xLa P w K mg base cdv A outer s H0 E).A.guards = some []) (hs : SqL K H a (ns.map V.int)) (hP : H (tP K) = some (.tbl #[]))
    (hQ : ∀ H', Q (.bl true) H') : SS (xLa P w K mg base cdv A outer s H0 E) (defBody s_law) { nx := fun _ H' => Q .non H', rt := Q } ([some (.ref a)] ++ List.replicate 7 none) H := by
  have r1 : Room 1 (xLa P w K mg base cdv A outer s H0 E).A := hr.mono (by decide)
  have r5 : Room 5 (xLa P w K mg base cdv A outer s H0 E).A := hr.mono (by decide)
  have C0 : Dl.Ctx (xLa P w K mg base cdv A outer s H0 E).K ⟨[], H, []⟩ [tP K] [] [.v (.ref a), .u, .u, .u, .u, .u, .u, .u] ([some (.ref a)] ++ List.replicate 7 none) H :=
    ⟨⟨_, _, rfl, rfl, start_env (ds := []) (vs := []) 7 rfl⟩, .inl rfl, (fun a ha => by cases ha), (fun p hp => by cases hp), (fun b hb z => by rw [List.mem_singleton.mp hb, hP] at z; cases z), .refl⟩
  have hT0 : LamX.TabS H (tP K) tq := LamX.TabS.nil hP
  obtain ⟨fdr, fdd, h1, h2, h3, h4⟩ := (ok_draw (P := P) (w := w) (base := base) T).ex
  refine ss_setV 1 (X := xLa P w K mg base cdv A outer s H0 E) (EE.of (pe_call (dvs := []) h4 r1 (by rfl) h1 h2 h3 .nil pass0 (pa_cons (pe_var (i := 0) rfl (by first | exact .inl rfl | exact .inr (.inl rfl) | exact .inr (.inr rfl))) (pa_cons pe_int pa_nil) (by exact star_cons rfl)) (by decide) (by exact star_cons rfl) (by exact back_plain rfl)) ⟨.ref a, rfl, ?_⟩) sc_law.nd
  dsimp only [tCons, tC, tNil, List.append_nil, List.cons_append, List.nil_append]
  refine ⟨[tP K], a, ns, 53, rfl, C0.trk, hs, by decide, by decide, fun H1 dl cl st1 hdl hcl hD1 => ?_⟩
  have hT1 : LamX.TabS H1 (tP K) tq := tabS_stp hT0 st1 (fun a ha => by cases ha)
  have nPd : tP K ≠ dl := fun z => by rw [z, hdl] at hP; cases hP
  have nPc : tP K ≠ cl := fun z => by rw [z, hcl] at hP; cases hP
  have tr1 : Trk [dl, cl, tP K] H1 := fun b hb z => by
    simp only [List.mem_cons, List.not_mem_nil, or_false] at hb
    rcases hb with rfl | rfl | rfl
    · obtain ⟨xs, e⟩ := deal_lst hD1 b (by simp)
      rw [z] at e; cases e
    · obtain ⟨xs, e⟩ := deal_lst hD1 b (by simp)
      rw [z] at e; cases e
    · obtain ⟨ps, e, _⟩ := hT1
      rw [z] at e; cases e
  have C1 : Dl.Ctx (xLa P w K mg base cdv A outer s H0 E).K ⟨[dl, cl], H1, [dl, cl]⟩ [dl, cl, tP K] [] (sLa a dl .u .u .u .u .u .u) ([some (.ref a), some (.ref dl)] ++ List.replicate 6 none) H1 :=
    ⟨⟨_, _, rfl, rfl, _, _, rfl, rfl, start_env (ds := []) (vs := []) 6 rfl⟩, .inr ⟨dl, cl, rfl, hD1⟩, (fun b hb => ⟨by
      have hb : b ∈ [dl, cl] := hb
      simp only [List.mem_cons, List.not_mem_nil, or_false] at hb ⊢
      exact hb.elim .inl fun z => .inr (.inl z), hb⟩), (fun p hp => by cases hp), tr1, .refl⟩
  -- the two turns
  refine ss_cons (S1.of (ps_for PassesOwn.never rfl pie pge psse (by intro _; rfl)) ((it_range (X := xLa P w K mg base cdv A outer s H0 E) (n := 2) de_int (by decide) T.n_range) _ H1 C1 _ fun J H2 C2 s2 ⟨Gd, Y, hw, hG, hY⟩ => for_it hw (fun i σ' H' => Dl.Ctx (xLa P w K mg base cdv A outer s H0 E).K ⟨[dl, cl], H', [dl, cl]⟩ [dl, cl, tP K] [] (sLa a dl .u .u .u .u .u .u) σ' H' ∧ LamX.TabS H' (tP K) tq ∧ Stp [dl, cl, tP K] H2 H') ?h0 (fun i σ' H' _ ⟨C', T', st'⟩ => hG H' st') (fun i x σ' H' H'' hi' ⟨C', T', st'⟩ yy => ?bd) (fun σ' H' ⟨C', T', st'⟩ => ?dn)))
  case h0 =>
    have hD2 := C2.dealM
    exact ⟨⟨C2.env, .inr ⟨dl, cl, rfl, hD2⟩, (fun b hb => ⟨(C2.ms b hb).1, hb⟩), (fun p hp => by cases hp), C2.trk, .refl⟩, tabS_stp hT1 C2.fr (deal_lst hD1), .refl⟩
  case dn =>
    exact ss_ret (v' := Q) C' (P := fun d => d = .bool true) de_bl fun v H3 d C3 _ e rv => by
      subst e
      have rv : v = .bl true := rv
      rw [rv]
      exact hQ H3
  case bd =>
    obtain ⟨s3, hrd⟩ := hY i H' x H'' hi' st' yy
    have hd' : (rng 2)[i]? = some ((rng 2)[i]'hi') := List.getElem?_eq_getElem hi'
    have C3 := C'.ext s3
    have T3 : LamX.TabS H'' (tP K) tq := tabS_stp T' s3 (fun a ha => by cases ha)
    have st3 : Stp [dl, cl, tP K] H2 H'' := st'.trans s3.nil
    refine (gd_name (X := xLa P w K mg base cdv A outer s H0 E) 2 sc_law.nd) _ H'' x C3 (hrd [dl, cl, tP K] _ (fun b o e n => ⟨st' b o e n, n⟩) C'.trk hd') _ fun σ3 C4 _ => ?_
    have C4 : Dl.Ctx (xLa P w K mg base cdv A outer s H0 E).K ⟨[dl, cl], H', [dl, cl]⟩ [dl, cl, tP K] [] (sLa a dl (.d ((rng 2)[i]'hi')) .u .u .u .u .u) σ3 H'' := C4
    show SS (xLa P w K mg base cdv A outer s H0 E) lawB0 _ σ3 H''
    refine ss_setV 3 (X := xLa P w K mg base cdv A outer s H0 E) (ev_callT (X := xLa P w K mg base cdv A outer s H0 E) 1 C4 rfl (by show tP K ∈ _; simp) T3 (ok_spicy_module T TB) hr fun v H4 d C5 st5 hT5 ⟨tt, fs, ed, hfs, hfl⟩ rv => ?_) sc_law.nd
    subst ed
    have C6 : Dl.Ctx (xLa P w K mg base cdv A outer s H0 E).K ⟨[dl, cl], H4, [dl, cl]⟩ [dl, cl, tP K] [] (sLa a dl (.d ((rng 2)[i]'hi')) (.d (.tuple [tt, .tuple (fs.map FnR.d)])) .u .u .u .u) _ H4 := C5.set 3 (o := some v) (s := .d (.tuple [tt, .tuple (fs.map FnR.d)])) ⟨v, rfl, rv⟩
    have hD6 := C6.dealM
    refine ss_forI (X := xLa P w K mg base cdv A outer s H0 E) (γ := Unit) (fun _ => []) (fun _ => sLa a dl (.d ((rng 2)[i]'hi')) (.d (.tuple [tt, .tuple (fs.map FnR.d)])) .u .u .u .u) (fun _ _ => True) () (js := [4]) (δt := fun _ d => sLa a dl (.d ((rng 2)[i]'hi')) (.d (.tuple [tt, .tuple (fs.map FnR.d)])) (.d d) .u .u .u) (ds := fs.map FnR.d) C6
      (it_data (y := .tuple (fs.map FnR.d)) (de_ix (da := .tuple [tt, .tuple (fs.map FnR.d)]) (de_var 3 rfl) de_int rfl) rfl) True.intro (fun W' g d => gd_name 4 sc_law.nd) ?_ ?_ rfl PassesOwn.never
    · rintro W1 j d _ σ5 H5 hW1 hd _ C7
      obtain ⟨f, hf, rfl⟩ := map_at hd
      exact law_fn T r5 hg0 (hfs f (List.mem_of_getElem? hf)) C7 fun σ6 H6 C8 => ⟨(), True.intro, C8⟩
    · rintro _ σ5 H5 _ C7
      have C7 : Dl.Ctx (xLa P w K mg base cdv A outer s H0 E).K ⟨[dl, cl], H4, [dl, cl]⟩ [dl, cl, tP K] [] (sLa a dl (.d ((rng 2)[i]'hi')) (.d (.tuple [tt, .tuple (fs.map FnR.d)])) .u .u .u .u) σ5 H5 := C7
      refine ss_nil ⟨?_, tabS_stp hT5 C7.fr (deal_lst hD6), (st3.trans st5).trans (stp3 C7.fr)⟩
      have C8 := (C7.u 2).u 3
      exact ⟨C8.env, .inr ⟨dl, cl, rfl, C8.dealM⟩, (fun b hb => ⟨(C8.ms b hb).1, hb⟩), (fun p hp => by cases hp), C8.trk, .refl⟩
end
end K53
/-! text A46 -/
set_option Elab.async false
set_option linter.all false
set_option maxRecDepth 100000
set_option maxHeartbeats 1000000
/-! the end of a law whose own def wants to know the whole stack: the law run from the caller alone, one table of lambdas -/
namespace Dl
open PySem PySem.Spec PyProof.Rows L2
def noTab : Obj := { cls := .none, data := .fields #[] }
def scr (vs : List Value) : Obj := { cls := .type "list", data := .seq vs.toArray }
/-- what is tracked at the begin: the table, the script where K doesn't hold it -/
def hp0 (K : PySem.W.Frag) (a T : Addr) (vs : List Value) (ns : List Int) : Hp := fun b =>
  if b = T then some (.tbl #[]) else if b = a then (match K.lookup a with
    | none => some (.frz (scr vs) (.lst (ns.map V.int)))
    | some _ => none) else none
section
variable {P : Program} {w : World} {K : PySem.W.Frag} {mg mb : Str → Option Value} {fa a c T : Addr} {s : Shared} {vs : List Value} {ns : List Int}
theorem hp0_T : hp0 K a T vs ns T = some (.tbl #[]) := if_pos rfl
theorem hp0_some {b : Addr} {u : HO} (h : hp0 K a T vs ns b = some u) : (b = T ∧ u = .tbl #[]) ∨ (b = a ∧ b ≠ T ∧ K.lookup a = none ∧ u = .frz (scr vs) (.lst (ns.map V.int))) := by
  unfold hp0 at h
  by_cases h1 : b = T
  · rw [if_pos h1] at h
    exact .inl ⟨h1, (Option.some.inj h).symm⟩
  · rw [if_neg h1] at h
    by_cases h2 : b = a
    · rw [if_pos h2] at h
      cases q : K.lookup a with
      | none => rw [q] at h; exact .inr ⟨h2, h1, rfl, (Option.some.inj h).symm⟩
      | some o => rw [q] at h; cases h
    · rw [if_neg h2] at h
      cases h
theorem end_run (kin : K.In s.heap) (gns : s.heap.Ns mainGlobals mg) (bns : s.heap.Ns builtinsNs mb) (boot : ∀ x : Str, x ≠ "__name__" → mb x = bootBuiltins x) (free : s.heap.NoLimit) (gens : s.gens = #[]) (tab : s.heap.get? T = some noTab) (tabK : K.lookup T = none) (code : PySem.W.CodeHd s.heap c T)
    (bmod : ∃ (bm : Addr) (ob : Obj), mg "__builtins__" = some (.ref bm) ∧ bm ≠ builtinsNs ∧ s.heap.get? bm = some ob ∧ ob.cls = .type "module" ∧ ob.dict = some builtinsNs ∧ ob.data = .plain) (script : s.heap.get? a = some (scr vs)) (nums : IntsAre vs ns) (few : ns.length ≤ sizeLine)
    (F : ∀ (base : Heap) (H : Hp), LamX.TabB base mg c T → Env0 P w K mg base callerA [] s H → H T = some (.tbl #[]) → SqL K H a (ns.map V.int) → codeAny (model P w) callerA (.call (.ref fa) ⟨[.ref a], []⟩) (CR CX0 [] P w H s (fun v _ => v = .bl true) E0) s) :
    codeAny (model P w) callerA (.call (.ref fa) ⟨[.ref a], []⟩) (fun r s' => r = .ok (.ret (.bool true)) ∧ OldK s.heap s'.heap ∧ s'.os = s.os ∧ AllBare s'.gens) s := by
  have vals : Vals (ns.map V.int) vs := vals_ints nums
  have size : ns.length = vs.length := nums.length.symm
  have aT : a ≠ T := fun z => by
    rw [z, tab] at script
    have e : (Data.fields #[] : Data) = .seq vs.toArray := congrArg Obj.data (Option.some.inj script)
    cases e
  generalize hH : hp0 K a T vs ns = H
  have cs : ∀ {b : Addr} {u : HO}, H b = some u → (b = T ∧ u = .tbl #[]) ∨ (b = a ∧ b ≠ T ∧ K.lookup a = none ∧ u = .frz (scr vs) (.lst (ns.map V.int))) := fun {b u} h => hp0_some (by rw [hH]; exact h)
  -- what is neither the script nor the table is not tracked
  have un0 : ∀ {b : Addr} {o : Obj}, s.heap.get? b = some o → o ≠ scr vs → o ≠ noTab → H b = none := fun {b o} e n1 n2 => by
    cases q : H b with
    | none => rfl
    | some u =>
      rcases cs q with ⟨rfl, _⟩ | ⟨rfl, _⟩
      · exact absurd (Option.some.inj (e.symm.trans tab)) n2
      · exact absurd (Option.some.inj (e.symm.trans script)) n1
  have dct : ∀ {o : Obj} {es : Array DictEntry} {ep : Nat}, o.data = .dict es ep → o ≠ scr vs ∧ o ≠ noTab := fun {o es ep} d => ⟨(fun z => by rw [z] at d; cases d), (fun z => by rw [z] at d; cases d)⟩
  have nsB : ∀ {b : Addr} {m : Str → Option Value}, s.heap.Ns b m → (hidT s.heap H).Ns b m := fun {b m} h => by
    obtain ⟨o, es, ep, e, d, r⟩ := h
    exact ⟨o, es, ep, hidT_get e (un0 e (dct d).1 (dct d).2), d, r⟩
  have kinB : K.In (hidT s.heap H) := fun b o e => hidT_get (kin b o e) (by
    cases q : H b with
    | none => rfl
    | some u =>
      rcases cs q with ⟨rfl, _⟩ | ⟨rfl, _, z, _⟩
      · rw [tabK] at e; cases e
      · rw [z] at e; cases e)
  have modB : L2.Mod K mg (hidT s.heap H) := by
    obtain ⟨mc, f1, f2⟩ := free
    exact ⟨kinB, nsB gns, ⟨mb, nsB bns, boot⟩, ⟨mc, nsB f1, f2⟩⟩
  have hok : HOk P w H s.heap := fun b u e => by
    rcases cs e with ⟨rfl, rfl⟩ | ⟨rfl, _, _, rfl⟩
    · exact tab
    · exact ⟨script, by rw [List.length_map]; exact few, vs, _, vals, script⟩
  have tb : LamX.TabB (hidT s.heap H) mg c T := by
    refine ⟨?_, ?_, fun z => ?_⟩
    · obtain ⟨o, us, file, tf, flags, tg, inF, text, tt, e, k1, k2, k3, r⟩ := code
      refine ⟨o, us, file, tf, flags, tg, inF, text, tt, hidT_get e (un0 e (fun z => ?_) fun z => ?_), k1, k2, k3, r⟩
      · rw [z] at k2; cases k2
      · rw [z] at k2
        cases k2
        simp at k3
    · obtain ⟨bm, ob, e1, e2, e3, e4, e5, e6⟩ := bmod
      refine ⟨bm, ob, e1, e2, fun z => ?_, fun z => ?_, hidT_get e3 (un0 e3 (fun z => ?_) fun z => ?_), e4, e5, e6⟩
      · obtain ⟨o, es, ep, g1, g2, _⟩ := gns
        rw [z, g1] at e3
        cases e3
        rw [g2] at e6; cases e6
      · rw [z, tab] at e3
        cases e3
        cases e6
      · rw [z] at e6; cases e6
      · rw [z] at e6; cases e6
    · obtain ⟨o, es, ep, g1, g2, _⟩ := gns
      rw [z, tab] at g1
      cases g1
      cases g2
  have env : Env0 P w K mg (hidT s.heap H) callerA [] s H :=
    { frames := rfl, mod := modB, bs := fun b o e => of_hidT e, bsz := Nat.le_of_eq (hidT_size _ _), funs := trivial, frf := (fun b hb => by cases hb), hok := hok, bare := .of_eq gens }
  have tH : H T = some (.tbl #[]) := by rw [← hH]; exact hp0_T
  have sq : SqL K H a (ns.map V.int) := by
    cases q : K.lookup a with
    | none =>
      refine .inl (.inr ⟨scr vs, ?_⟩)
      rw [← hH]
      unfold hp0
      rw [if_neg aT, if_pos rfl, q]
    | some o =>
      have e := kin a o q
      rw [script] at e
      cases e
      exact .inr ⟨_, vs.toArray, _, q, rfl, rfl, rfl, by rw [List.size_toArray, ← size]; exact few, by simpa using vals⟩
  refine codeAny_mono (F _ H tb env tH sq) fun r s' h => ?_
  cases r with
  | error e => exact h.elim
  | ok fl =>
    cases fl with
    | next => exact h.elim
    | brk => exact h.elim
    | cont => exact h.elim
    | ret u =>
      obtain ⟨v, H', hos, hbare, un, hok', ru, hv⟩ := h
      have hv : v = .bl true := hv
      subst hv
      have eu : u = Value.bool true := ru
      subst eu
      have stay : ∀ b o, b ≠ T → s.heap.get? b = some o → s'.heap.get? b = some o := fun b o nb e => by
        cases q : H b with
        | none => exact un.keep b o e q (fun z => nomatch z) (fun z => nomatch z)
        | some u =>
          rcases cs q with ⟨z, _⟩ | ⟨z, _, _, rfl⟩
          · exact absurd z nb
          · obtain ⟨g1, _⟩ := hok b _ q
            obtain ⟨g2, _⟩ := hok' b _ (un.frzs b _ _ q)
            rw [e] at g1
            cases g1
            exact g2
      obtain ⟨more, tm⟩ := un.tbls T #[] tH
      have tm : s'.heap.get? T = some { cls := .none, data := .fields (#[] ++ more) } := hok' T _ tm
      refine ⟨rfl, ⟨fun b o e => ?_, fun b o e => ?_⟩, hos, hbare⟩
      · by_cases z : b = T
        · subst z
          rw [tab] at e
          cases e
          exact .inr (.inl ⟨(code.tab tab).isCodeTable, rfl, #[], more, rfl, tm⟩)
        · exact .inl (stay b o z e)
      · by_cases z : b = T
        · exact ⟨_, by rw [z]; exact tm⟩
        · exact ⟨o, stay b o z e⟩
end
end Dl
/-! text A47 -/
set_option Elab.async false
set_option linter.all false
set_option maxRecDepth 100000
set_option maxHeartbeats 1000000
namespace K53
open PySem PySem.Spec PyProof.Rows L2 Dl
section
variable {P : Program} {w : World} {K : PySem.W.Frag} {mg : Str → Option Value} {base : Heap}
/-- the law, called by the caller alone: True -/
theorem law_run (T : Txt K mg) (TB : LamX.TabB base mg (tc K) (tP K)) {s : Shared} {H : Hp} {a : Addr} {ns : List Int} (e0 : Env0 P w K mg base callerA [] s H) (hP : H (tP K) = some (.tbl #[])) (hs : SqL K H a (ns.map V.int)) :
    codeAny (model P w) callerA (.call (.ref (He.ga K "law")) ⟨[.ref a], []⟩) (CR CX0 [] P w H s (fun v _ => v = .bl true) E0) s := by
  obtain ⟨fd, F⟩ := T.F_law
  have Fb := F.bindsN b_law
  obtain ⟨oc, od, dV, kV, doc, pm, an, cdv, ct, osl, rfl, lk, hcd, _, _⟩ := F.ex
  have kin : K.In s.heap := e0.mod.kin.keeps fun b o e => (e0.bs b o e).1
  have room : Room 10 callerA := ⟨rfl, by decide, by decide⟩
  refine LamX.run_ofS lk hcd sc_law (vs := [.ref a]) room e0 (Fb s [.ref a] kin rfl) (.cons rfl .nil) rfl fun hr => ⟨_, PSs.nox psse, ?_⟩
  exact law_body (Q := fun v _ => v = .bl true) T TB hr rfl hs hP fun H' => rfl
end
end K53
/-! text A48 -/
set_option Elab.async false
set_option linter.all false
set_option maxRecDepth 100000
set_option maxHeartbeats 0
namespace K53
open PySem PySem.Spec PyProof.Rows L2 Dl
/-! ### the head: facts by names -/
def d_end_labels : He.DefD := ⟨("end_labels", none), "end_labels", "end_labels", defArgs s_end_labels, defBody s_end_labels, defScope s_end_labels, [], []⟩
def d_web_of : He.DefD := ⟨("web_of", none), "web_of", "web_of", defArgs s_web_of, defBody s_web_of, defScope s_web_of, [], []⟩
def d_entry_of : He.DefD := ⟨("entry_of", none), "entry_of", "entry_of", defArgs s_entry_of, defBody s_entry_of, defScope s_entry_of, [], []⟩
def d_found_from : He.DefD := ⟨("found_from", none), "found_from", "found_from", defArgs s_found_from, defBody s_found_from, defScope s_found_from, [], []⟩
def d_reached_labels : He.DefD := ⟨("reached_labels", none), "reached_labels", "reached_labels", defArgs s_reached_labels, defBody s_reached_labels, defScope s_reached_labels, [], []⟩
def d_op_weight : He.DefD := ⟨("op_weight", none), "op_weight", "op_weight", defArgs s_op_weight, defBody s_op_weight, defScope s_op_weight, [], []⟩
def d_reached_ops : He.DefD := ⟨("reached_ops", none), "reached_ops", "reached_ops", defArgs s_reached_ops, defBody s_reached_ops, defScope s_reached_ops, [], []⟩
def d_heights : He.DefD := ⟨("heights", none), "heights", "heights", defArgs s_heights, defBody s_heights, defScope s_heights, [], []⟩
def d_weight : He.DefD := ⟨("weight", none), "weight", "weight", defArgs s_weight, defBody s_weight, defScope s_weight, [], []⟩
def d_L_draw : He.DefD := ⟨("_law_draw", none), "_law_draw", "_law_draw", defArgs s_L_draw, defBody s_L_draw, defScope s_L_draw, [], []⟩
def d_L_any : He.DefD := ⟨("_law_any", none), "_law_any", "_law_any", defArgs s_L_any, defBody s_L_any, defScope s_L_any, [], []⟩
def d_L_of : He.DefD := ⟨("_law_of", none), "_law_of", "_law_of", defArgs s_L_of, defBody s_L_of, defScope s_L_of, [], []⟩
def d_L_mixed : He.DefD := ⟨("_law_mixed", none), "_law_mixed", "_law_mixed", defArgs s_L_mixed, defBody s_L_mixed, defScope s_L_mixed, [], []⟩
def d_L_power : He.DefD := ⟨("_law_power", none), "_law_power", "_law_power", defArgs s_L_power, defBody s_L_power, defScope s_L_power, [], []⟩
def d_L_number : He.DefD := ⟨("_law_number", none), "_law_number", "_law_number", defArgs s_L_number, defBody s_L_number, defScope s_L_number, [], []⟩
def d_L_form : He.DefD := ⟨("_law_form", none), "_law_form", "_law_form", defArgs s_L_form, defBody s_L_form, defScope s_L_form, [], []⟩
def d_L_web : He.DefD := ⟨("_law_web", none), "_law_web", "_law_web", defArgs s_L_web, defBody s_L_web, defScope s_L_web, [], []⟩
def d_L_reached : He.DefD := ⟨("_law_reached", none), "_law_reached", "_law_reached", defArgs s_L_reached, defBody s_L_reached, defScope s_L_reached, [], []⟩
def d_L_operand : He.DefD := ⟨("_law_operand", none), "_law_operand", "_law_operand", defArgs s_L_operand, defBody s_L_operand, defScope s_L_operand, [], []⟩
def d_L_operands : He.DefD := ⟨("_law_operands", none), "_law_operands", "_law_operands", defArgs s_L_operands, defBody s_L_operands, defScope s_L_operands, [], []⟩
def d_L_block : He.DefD := ⟨("_law_block", none), "_law_block", "_law_block", defArgs s_L_block, defBody s_L_block, defScope s_L_block, [], []⟩
def d_L_function : He.DefD := ⟨("_law_function", none), "_law_function", "_law_function", defArgs s_L_function, defBody s_L_function, defScope s_L_function, [], []⟩
def d_L_module : He.DefD := ⟨("_law_module", none), "_law_module", "_law_module", defArgs s_L_module, defBody s_L_module, defScope s_L_module, [], []⟩
def d_L_made : He.DefD := ⟨("_law_made", none), "_law_made", "_law_made", defArgs s_L_made, defBody s_L_made, defScope s_L_made, [], []⟩
def d_L_pure : He.DefD := ⟨("_law_pure", none), "_law_pure", "_law_pure", defArgs s_L_pure, defBody s_L_pure, defScope s_L_pure, [], []⟩
def d_L_ways : He.DefD := ⟨("_law_ways", none), "_law_ways", "_law_ways", defArgs s_L_ways, defBody s_L_ways, defScope s_L_ways, [], []⟩
def d_L_web_of : He.DefD := ⟨("_law_web_of", none), "_law_web_of", "_law_web_of", defArgs s_L_web_of, defBody s_L_web_of, defScope s_L_web_of, [], []⟩
def d_L_spiced : He.DefD := ⟨("_law_spiced", none), "_law_spiced", "_law_spiced", defArgs s_L_spiced, defBody s_L_spiced, defScope s_L_spiced, [], []⟩
def d_L_spicy_module : He.DefD := ⟨("_law_spicy_module", none), "_law_spicy_module", "_law_spicy_module", defArgs s_L_spicy_module, defBody s_L_spicy_module, defScope s_L_spicy_module, [], []⟩
def d_L_near_weighed : He.DefD := ⟨("_law_near_weighed", none), "_law_near_weighed", "_law_near_weighed", defArgs s_L_near_weighed, defBody s_L_near_weighed, defScope s_L_near_weighed, [], []⟩
def d_L_op_weight : He.DefD := ⟨("_law_op_weight", none), "_law_op_weight", "_law_op_weight", defArgs s_L_op_weight, defBody s_L_op_weight, defScope s_L_op_weight, [], []⟩
def d_L_weight : He.DefD := ⟨("_law_weight", none), "_law_weight", "_law_weight", defArgs s_L_weight, defBody s_L_weight, defScope s_L_weight, [], []⟩
def d_law : He.DefD := ⟨("law", none), "law", "law", defArgs s_law, defBody s_law, defScope s_law, [], []⟩
def fn : List He.DefD := [d_end_labels, d_web_of, d_entry_of, d_found_from, d_reached_labels, d_op_weight, d_reached_ops, d_heights, d_weight, d_L_draw, d_L_any, d_L_of, d_L_mixed, d_L_power, d_L_number, d_L_form, d_L_web, d_L_reached, d_L_operand, d_L_operands, d_L_block, d_L_function, d_L_module, d_L_made, d_L_pure, d_L_ways, d_L_web_of, d_L_spiced, d_L_spicy_module, d_L_near_weighed, d_L_op_weight, d_L_weight, d_law]
def fa : List He.Fa := [.glo "end_labels", .glo "web_of", .glo "entry_of", .glo "found_from", .glo "reached_labels", .glo "op_weight", .glo "reached_ops", .glo "heights", .glo "weight", .glo "_law_draw", .glo "_law_any", .glo "_law_of", .glo "_law_mixed", .glo "_law_power", .glo "_law_number", .glo "_law_form", .glo "_law_web", .glo "_law_reached", .glo "_law_operand", .glo "_law_operands", .glo "_law_block", .glo "_law_function", .glo "_law_module", .glo "_law_made", .glo "_law_pure", .glo "_law_ways", .glo "_law_web_of", .glo "_law_spiced", .glo "_law_spicy_module", .glo "_law_near_weighed", .glo "_law_op_weight", .glo "_law_weight", .glo "law", .free "abs", .free "enumerate", .free "int", .free "len", .free "list", .free "max", .free "range", .free "repr", .free "sorted", .free "sum", .free "tuple", .glo "DIVISIONS", .glo "WEIGHED", .glo "TURNED"]
def ex (K : PySem.W.Frag) : Bool := He.tupB K "DIVISIONS" [.str "udiv", .str "sdiv", .str "urem", .str "srem"] && He.tupB K "WEIGHED" [.str "bin", .str "cmp", .str "select", .str "cast", .str "at"] && He.tupB K "TURNED" [.str "add", .str "mul", .str "and", .str "or", .str "xor", .str "eq", .str "ne"]
def ts : List He.Tab := []
def tf : List He.Defn := [("_law_module", none)]
abbrev R : PySem.W.OpenRow := PySem.W.OpenLaw.row PySem.Challenge.rw_anypasses_k53_weights
abbrev hk : PySem.W.Hook := He.hookX 4 fa fn ts tf ex
def ob (s : PySem.W.SharedT) : He.AlX := He.obsX 4 fa fn ts tf ex (HandSHeadRun.getT s)
theorem ob_eq (s : PySem.W.SharedT) : ob s = hk.obs s.abs := He.obsX_eq (HandSHeadRun.getT_eq s)
def loose : List PySem.Str := (["DIVISIONS", "end_labels", "web_of", "entry_of", "found_from", "reached_labels", "WEIGHED", "TURNED", "op_weight", "reached_ops", "heights", "weight", "_law_draw", "_law_any", "_law_of", "_law_mixed", "_law_power", "_law_number", "_law_form", "_law_web", "_law_reached", "_law_operand", "_law_operands", "_law_block", "_law_function", "_law_module", "_law_made", "_law_pure", "_law_ways", "_law_web_of"] : List PySem.Str) ++ (["_law_spiced", "_law_spicy_module", "_law_near_weighed", "_law_op_weight", "_law_weight"] : List PySem.Str)
theorem run (w : World) : HandSHeadRun.RunEq R (PySem.W.view R.prog [38]) hk ob 4000 loose w := by
  intro os
  kernel_rfl
theorem txt_of {w : World} {h : Heap} {K : PySem.W.Frag} {mg : Str → Option Value} (X : K.In h) (G : h.Ns mainGlobals mg) (c : He.SaysX fa fn ts tf ex w h K) : Txt K mg where
  F_end_labels := c.t.d.def_ 0 (d := d_end_labels) rfl
  g_end_labels := He.glo_ok X G (c.t.d.fact 0 (f := .glo "end_labels") rfl)
  F_web_of := c.t.d.def_ 1 (d := d_web_of) rfl
  g_web_of := He.glo_ok X G (c.t.d.fact 1 (f := .glo "web_of") rfl)
  F_entry_of := c.t.d.def_ 2 (d := d_entry_of) rfl
  g_entry_of := He.glo_ok X G (c.t.d.fact 2 (f := .glo "entry_of") rfl)
  F_found_from := c.t.d.def_ 3 (d := d_found_from) rfl
  g_found_from := He.glo_ok X G (c.t.d.fact 3 (f := .glo "found_from") rfl)
  F_reached_labels := c.t.d.def_ 4 (d := d_reached_labels) rfl
  g_reached_labels := He.glo_ok X G (c.t.d.fact 4 (f := .glo "reached_labels") rfl)
  F_op_weight := c.t.d.def_ 5 (d := d_op_weight) rfl
  g_op_weight := He.glo_ok X G (c.t.d.fact 5 (f := .glo "op_weight") rfl)
  F_reached_ops := c.t.d.def_ 6 (d := d_reached_ops) rfl
  g_reached_ops := He.glo_ok X G (c.t.d.fact 6 (f := .glo "reached_ops") rfl)
  F_heights := c.t.d.def_ 7 (d := d_heights) rfl
  g_heights := He.glo_ok X G (c.t.d.fact 7 (f := .glo "heights") rfl)
  F_weight := c.t.d.def_ 8 (d := d_weight) rfl
  g_weight := He.glo_ok X G (c.t.d.fact 8 (f := .glo "weight") rfl)
  F_L_draw := c.t.d.def_ 9 (d := d_L_draw) rfl
  g_L_draw := He.glo_ok X G (c.t.d.fact 9 (f := .glo "_law_draw") rfl)
  F_L_any := c.t.d.def_ 10 (d := d_L_any) rfl
  g_L_any := He.glo_ok X G (c.t.d.fact 10 (f := .glo "_law_any") rfl)
  F_L_of := c.t.d.def_ 11 (d := d_L_of) rfl
  g_L_of := He.glo_ok X G (c.t.d.fact 11 (f := .glo "_law_of") rfl)
  F_L_mixed := c.t.d.def_ 12 (d := d_L_mixed) rfl
  g_L_mixed := He.glo_ok X G (c.t.d.fact 12 (f := .glo "_law_mixed") rfl)
  F_L_power := c.t.d.def_ 13 (d := d_L_power) rfl
  g_L_power := He.glo_ok X G (c.t.d.fact 13 (f := .glo "_law_power") rfl)
  F_L_number := c.t.d.def_ 14 (d := d_L_number) rfl
  g_L_number := He.glo_ok X G (c.t.d.fact 14 (f := .glo "_law_number") rfl)
  F_L_form := c.t.d.def_ 15 (d := d_L_form) rfl
  g_L_form := He.glo_ok X G (c.t.d.fact 15 (f := .glo "_law_form") rfl)
  F_L_web := c.t.d.def_ 16 (d := d_L_web) rfl
  g_L_web := He.glo_ok X G (c.t.d.fact 16 (f := .glo "_law_web") rfl)
  F_L_reached := c.t.d.def_ 17 (d := d_L_reached) rfl
  g_L_reached := He.glo_ok X G (c.t.d.fact 17 (f := .glo "_law_reached") rfl)
  F_L_operand := c.t.d.def_ 18 (d := d_L_operand) rfl
  g_L_operand := He.glo_ok X G (c.t.d.fact 18 (f := .glo "_law_operand") rfl)
  F_L_operands := c.t.d.def_ 19 (d := d_L_operands) rfl
  g_L_operands := He.glo_ok X G (c.t.d.fact 19 (f := .glo "_law_operands") rfl)
  F_L_block := c.t.d.def_ 20 (d := d_L_block) rfl
  g_L_block := He.glo_ok X G (c.t.d.fact 20 (f := .glo "_law_block") rfl)
  F_L_function := c.t.d.def_ 21 (d := d_L_function) rfl
  g_L_function := He.glo_ok X G (c.t.d.fact 21 (f := .glo "_law_function") rfl)
  F_L_module := c.t.d.def_ 22 (d := d_L_module) rfl
  g_L_module := He.glo_ok X G (c.t.d.fact 22 (f := .glo "_law_module") rfl)
  F_L_made := c.t.d.def_ 23 (d := d_L_made) rfl
  g_L_made := He.glo_ok X G (c.t.d.fact 23 (f := .glo "_law_made") rfl)
  F_L_pure := c.t.d.def_ 24 (d := d_L_pure) rfl
  g_L_pure := He.glo_ok X G (c.t.d.fact 24 (f := .glo "_law_pure") rfl)
  F_L_ways := c.t.d.def_ 25 (d := d_L_ways) rfl
  g_L_ways := He.glo_ok X G (c.t.d.fact 25 (f := .glo "_law_ways") rfl)
  F_L_web_of := c.t.d.def_ 26 (d := d_L_web_of) rfl
  g_L_web_of := He.glo_ok X G (c.t.d.fact 26 (f := .glo "_law_web_of") rfl)
  F_L_spiced := c.t.d.def_ 27 (d := d_L_spiced) rfl
  g_L_spiced := He.glo_ok X G (c.t.d.fact 27 (f := .glo "_law_spiced") rfl)
  F_L_spicy_module := c.t.d.def_ 28 (d := d_L_spicy_module) rfl
  g_L_spicy_module := He.glo_ok X G (c.t.d.fact 28 (f := .glo "_law_spicy_module") rfl)
  F_L_near_weighed := c.t.d.def_ 29 (d := d_L_near_weighed) rfl
  g_L_near_weighed := He.glo_ok X G (c.t.d.fact 29 (f := .glo "_law_near_weighed") rfl)
  F_L_op_weight := c.t.d.def_ 30 (d := d_L_op_weight) rfl
  g_L_op_weight := He.glo_ok X G (c.t.d.fact 30 (f := .glo "_law_op_weight") rfl)
  F_L_weight := c.t.d.def_ 31 (d := d_L_weight) rfl
  g_L_weight := He.glo_ok X G (c.t.d.fact 31 (f := .glo "_law_weight") rfl)
  F_law := c.t.d.def_ 32 (d := d_law) rfl
  g_law := He.glo_ok X G (c.t.d.fact 32 (f := .glo "law") rfl)
  n_abs := He.free_ok X G (c.t.d.fact 33 (f := .free "abs") rfl)
  n_enumerate := He.free_ok X G (c.t.d.fact 34 (f := .free "enumerate") rfl)
  n_int := He.free_ok X G (c.t.d.fact 35 (f := .free "int") rfl)
  n_len := He.free_ok X G (c.t.d.fact 36 (f := .free "len") rfl)
  n_list := He.free_ok X G (c.t.d.fact 37 (f := .free "list") rfl)
  n_max := He.free_ok X G (c.t.d.fact 38 (f := .free "max") rfl)
  n_range := He.free_ok X G (c.t.d.fact 39 (f := .free "range") rfl)
  n_repr := He.free_ok X G (c.t.d.fact 40 (f := .free "repr") rfl)
  n_sorted := He.free_ok X G (c.t.d.fact 41 (f := .free "sorted") rfl)
  n_sum := He.free_ok X G (c.t.d.fact 42 (f := .free "sum") rfl)
  n_tuple := He.free_ok X G (c.t.d.fact 43 (f := .free "tuple") rfl)
  g_DIVISIONS := He.glo_ok X G (c.t.d.fact 44 (f := .glo "DIVISIONS") rfl)
  c_DIVISIONS := (He.ba ((He.ba (c.more)).1)).1
  g_WEIGHED := He.glo_ok X G (c.t.d.fact 45 (f := .glo "WEIGHED") rfl)
  c_WEIGHED := (He.ba ((He.ba (c.more)).1)).2
  g_TURNED := He.glo_ok X G (c.t.d.fact 46 (f := .glo "TURNED") rfl)
  c_TURNED := (He.ba (c.more)).2
theorem fa_eq {K : PySem.W.Frag} {mg : Str → Option Value} {fa : Addr} (T : Txt K mg) (h : mg "law" = some (.ref fa)) : fa = He.ga K "law" := by
  have e := Option.some.inj (h.symm.trans T.g_law)
  injection e
end K53
open PySem PySem.W PySem.Calls PyProof.Rows
theorem PySem.Challenge.cw_anypasses_k53_weights_holds : PySem.Challenge.rw_anypasses_k53_weights.Holds := by
  w_on; o_law
  refine HandSHeadRun.head_any (r := OpenLaw.row PySem.Challenge.rw_anypasses_k53_weights) (q := view (OpenLaw.row PySem.Challenge.rw_anypasses_k53_weights).prog [38]) (H := K53.hk) (ob := K53.ob) (M := 4000) (loose := K53.loose) (d := HandSHeadRun.topDef (OpenLaw.row PySem.Challenge.rw_anypasses_k53_weights).prog 38) (kwd := []) K53.ob_eq
    (by kernel_rfl) (fun s => by kernel_rfl) K53.run (by kernel_rfl) (by kernel_rfl) (by kernel_rfl) (by rfl) (by first | assumption | decide +kernel) (by decide +kernel) ⟨rfl, rfl, rfl, rfl, rfl, by decide +kernel⟩ ?hw ?hc
  case hw => w_witness2
  case hc =>
    refine Att.attach_callB (l := PySem.Challenge.rw_anypasses_k53_weights) (n := 63) rfl (by kernel_rfl) fun w s₀ s₁ mg mb fa o pm cd doc a vs ns G Y ho hd hcd hmg0 hobj hints hlen hbits hg => ?_
    obtain ⟨K, KX, c⟩ := Y
    have hmg : mg ("law" : PySem.Str) = some (.ref fa) := by
      have e : (HandSHeadRun.topDef (OpenLaw.row PySem.Challenge.rw_anypasses_k53_weights).prog 38).name = ("law" : PySem.Str) := by kernel_rfl
      rw [← e]
      exact hmg0
    have T : K53.Txt K mg := K53.txt_of KX G.T.g c
    have efa : fa = He.ga K "law" := K53.fa_eq T hmg
    subst efa
    have hm : (("_law_module", none) : He.Defn) ∈ K53.tf := List.mem_cons_self
    exact Dl.end_run (P := PySem.Challenge.rw_anypasses_k53_weights.prog) KX G.T.g G.T.b G.T.builtins G.T.nolimit hg (c.empty _ hm) (c.out _ hm) (PySem.W.codeHd_of_K KX (c.hd _ hm)) G.T.bmain hobj hints (Nat.le_trans hlen (by decide)) fun base H tb e0 hT hs => K53.law_run T tb e0 hT hs
